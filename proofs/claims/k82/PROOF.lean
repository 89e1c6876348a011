import PyProof.Rows.All
import HandS.ForMost
import HandS.Exc
import HandS.ClsMeth
import HandS.Star
import HandS.Property
import HandS.IsInst
import HandS.TupAny
import HandS.Strs
import HandS.Walk
import HandS.Defaults
import HandS.HeadNt
import HandS.OwnEq
import HandS.SlotsOwn
import KE.KOpsOwn
import KE.LtData
import PyProof.TwoTypes
import HandS.Head0
import HandS.Head1
import HandS.Head2
import HandS.HeadEnd
import HandS.HeadHook3
import HandS.ExcInit
import HandS.ExcField
import HandS.ExcSuper
import HandS.ExcIs
import KE.KExcSuper
import HandS.Conv
import HandS.WordsExc
import PySem.Challenge.RW_copiesfollow_k82_whole_frontier
set_option Elab.async false
set_option linter.all false
set_option maxRecDepth 100000
set_option maxHeartbeats 4000000
/-! DCore: data without a heap (D), what a value stands for (Rep), the frozen part F of the heap, owned slots, the readings tE, tT, tA, tO, tS of plain functions. -/
namespace DL
open PySem PySem.Spec L2
open PyProof.Rows hiding St

/-- a value as plain data -/
inductive D where
  | non | bl (b : Bool) | int (i : Int) | str (x : Str)
  | lst (xs : List D) | tup (xs : List D) | rd (xs : List D)
  | ins (c : Str) (ns : List Str) (ds : List D)
  | cls (c : Str)

section
variable (K : PySem.W.Frag) (mg : Str → Option Value)
mutual
def Rep (H : Hp) : D → V → Prop
  | .non, v => v = .non
  | .bl b, v => v = .bl b
  | .int i, v => v = .int i
  | .str x, v => v = .str x
  | .lst ds, v => ∃ a vs, v = .ref a ∧ H a = some (.lst vs) ∧ RepL H ds vs
  | .rd ds, v => ∃ a vs, v = .ref a ∧ SqL K H a vs ∧ RepL H ds vs
  | .tup ds, v => ∃ a vs, v = .ref a ∧ SqT K H a vs ∧ RepL H ds vs
  | .ins c ns ds, v => ∃ a C dx fs, v = .ref a ∧ mg c = some (.ref C) ∧ H a = some (.ins C dx fs) ∧ fs.map (·.1) = ns ∧ RepL H ds (fs.map (·.2))
  | .cls c, v => ∃ C, v = .ref C ∧ mg c = some (.ref C)
def RepL (H : Hp) : List D → List V → Prop
  | [], vs => vs = []
  | d :: ds, vs => ∃ v r, vs = v :: r ∧ Rep H d v ∧ RepL H ds r
end
end

section
variable {K : PySem.W.Frag} {mg : Str → Option Value} {H H' : Hp}
theorem Same.tupS {a : Addr} {xs : List V} (e : Same H H') (h : SqT K H a xs) : SqT K H' a xs := by
  rcases h with (h | ⟨o, h⟩) | h
  · exact .inl (.inl (e _ _ h))
  · exact .inl (.inr ⟨o, e _ _ h⟩)
  · exact .inr h
mutual
theorem Rep.mono (s : Same H H') : ∀ {d : D} {v : V}, Rep K mg H d v → Rep K mg H' d v
  | .non, _, h => by simpa [Rep] using h
  | .bl _, _, h => by simpa [Rep] using h
  | .int _, _, h => by simpa [Rep] using h
  | .str _, _, h => by simpa [Rep] using h
  | .lst ds, v, h => by
    unfold Rep at h ⊢
    obtain ⟨a, vs, e, q, r⟩ := h
    exact ⟨a, vs, e, s _ _ q, RepL.mono s r⟩
  | .rd ds, v, h => by
    unfold Rep at h ⊢
    obtain ⟨a, vs, e, q, r⟩ := h
    exact ⟨a, vs, e, s.seq q, RepL.mono s r⟩
  | .tup ds, v, h => by
    unfold Rep at h ⊢
    obtain ⟨a, vs, e, q, r⟩ := h
    exact ⟨a, vs, e, Same.tupS s q, RepL.mono s r⟩
  | .ins c ns ds, v, h => by
    unfold Rep at h ⊢
    obtain ⟨a, C, dx, fs, e, m, q, n, r⟩ := h
    exact ⟨a, C, dx, fs, e, m, s _ _ q, n, RepL.mono s r⟩
  | .cls _, _, h => by simpa [Rep] using h
theorem RepL.mono (s : Same H H') : ∀ {ds : List D} {vs : List V}, RepL K mg H ds vs → RepL K mg H' ds vs
  | [], _, h => by simpa [RepL] using h
  | d :: ds, vs, h => by
    unfold RepL at h ⊢
    obtain ⟨v, r, e, h1, h2⟩ := h
    exact ⟨v, r, e, Rep.mono s h1, RepL.mono s h2⟩
end
theorem rep_int {i : Int} {v : V} : Rep K mg H (.int i) v ↔ v = .int i := by simp [Rep]
theorem rep_bl {b : Bool} {v : V} : Rep K mg H (.bl b) v ↔ v = .bl b := by simp [Rep]
theorem rep_str {x : Str} {v : V} : Rep K mg H (.str x) v ↔ v = .str x := by simp [Rep]
theorem rep_non {v : V} : Rep K mg H .non v ↔ v = .non := by simp [Rep]
theorem RepL.nil : RepL K mg H [] [] := by simp [RepL]
theorem RepL.cons {d : D} {v : V} {ds : List D} {vs : List V} (h : Rep K mg H d v) (t : RepL K mg H ds vs) : RepL K mg H (d :: ds) (v :: vs) := by
  unfold RepL
  exact ⟨v, vs, rfl, h, t⟩
theorem RepL.cons_iff {d : D} {v : V} {ds : List D} {vs : List V} : RepL K mg H (d :: ds) (v :: vs) ↔ Rep K mg H d v ∧ RepL K mg H ds vs := by
  constructor
  · intro h
    unfold RepL at h
    obtain ⟨v', r, e, h1, h2⟩ := h
    cases e
    exact ⟨h1, h2⟩
  · exact fun h => .cons h.1 h.2
theorem RepL.length : ∀ {ds : List D} {vs : List V}, RepL K mg H ds vs → vs.length = ds.length
  | [], vs, h => by
    unfold RepL at h
    rw [h]
    rfl
  | d :: ds, vs, h => by
    unfold RepL at h
    obtain ⟨v, r, e, _, h2⟩ := h
    rw [e, List.length_cons, List.length_cons, RepL.length h2]
theorem RepL.append : ∀ {ds es : List D} {vs us : List V}, RepL K mg H ds vs → RepL K mg H es us → RepL K mg H (ds ++ es) (vs ++ us)
  | [], _, vs, _, h, h' => by
    unfold RepL at h
    subst h
    exact h'
  | d :: ds, _, vs, _, h, h' => by
    unfold RepL at h
    obtain ⟨v, r, e, h1, h2⟩ := h
    subst e
    exact .cons h1 (RepL.append h2 h')
theorem RepL.get : ∀ {ds : List D} {vs : List V} {i : Nat} {v : V}, RepL K mg H ds vs → vs[i]? = some v → ∃ d, ds[i]? = some d ∧ Rep K mg H d v
  | [], vs, i, v, h, e => by
    unfold RepL at h
    subst h
    simp at e
  | d :: ds, vs, 0, v, h, e => by
    unfold RepL at h
    obtain ⟨v', r, e', h1, h2⟩ := h
    subst e'
    simp at e
    subst e
    exact ⟨d, rfl, h1⟩
  | d :: ds, vs, i + 1, v, h, e => by
    unfold RepL at h
    obtain ⟨v', r, e', h1, h2⟩ := h
    subst e'
    have e2 : r[i]? = some v := by simpa using e
    obtain ⟨d', a, b⟩ := RepL.get h2 e2
    exact ⟨d', by simpa using a, b⟩
theorem RepL.get' : ∀ {ds : List D} {vs : List V} {i : Nat} {d : D}, RepL K mg H ds vs → ds[i]? = some d → ∃ v, vs[i]? = some v ∧ Rep K mg H d v
  | [], vs, i, d, h, e => by simp at e
  | d' :: ds, vs, 0, d, h, e => by
    unfold RepL at h
    obtain ⟨v', r, e', h1, h2⟩ := h
    subst e'
    simp at e
    subst e
    exact ⟨v', rfl, h1⟩
  | d' :: ds, vs, i + 1, d, h, e => by
    unfold RepL at h
    obtain ⟨v', r, e', h1, h2⟩ := h
    subst e'
    obtain ⟨v, a, b⟩ := RepL.get' h2 (by simpa using e)
    exact ⟨v, by simpa using a, b⟩
theorem RepL.take : ∀ {ds : List D} {vs : List V} (n : Nat), RepL K mg H ds vs → RepL K mg H (ds.take n) (vs.take n)
  | ds, vs, 0, h => by simpa [RepL] using (RepL.nil (K := K) (mg := mg) (H := H))
  | [], vs, n + 1, h => by
    unfold RepL at h
    subst h
    exact .nil
  | d :: ds, vs, n + 1, h => by
    unfold RepL at h
    obtain ⟨v', r, e', h1, h2⟩ := h
    subst e'
    exact .cons h1 (RepL.take n h2)
theorem RepL.drop : ∀ {ds : List D} {vs : List V} (n : Nat), RepL K mg H ds vs → RepL K mg H (ds.drop n) (vs.drop n)
  | ds, vs, 0, h => by simpa using h
  | [], vs, n + 1, h => by
    unfold RepL at h
    subst h
    exact .nil
  | d :: ds, vs, n + 1, h => by
    unfold RepL at h
    obtain ⟨v', r, e', h1, h2⟩ := h
    subst e'
    exact RepL.drop n h2
theorem RepL.set : ∀ {ds : List D} {vs : List V} {d : D} {v : V} (i : Nat), Rep K mg H d v → RepL K mg H ds vs → RepL K mg H (ds.set i d) (vs.set i v)
  | [], vs, _, _, i, _, h => by
    unfold RepL at h
    subst h
    exact .nil
  | _ :: ds, vs, d, v, 0, hv, h => by
    unfold RepL at h
    obtain ⟨v', r, e', h1, h2⟩ := h
    subst e'
    exact .cons hv h2
  | _ :: ds, vs, d, v, i + 1, hv, h => by
    unfold RepL at h
    obtain ⟨v', r, e', h1, h2⟩ := h
    subst e'
    exact .cons h1 (RepL.set i hv h2)
end

/-- what a slot holds: nothing that is spoken of, frozen data, a list of one's own, a list lent by the caller, an instance lent by the caller -/
inductive Sl where
  | no | fz (d : D) | ow (xs : List D) | io (xs : List D) | oi (c : Str) (ns : List Str) (ds : List D)
def Sl.own : Sl → Bool
  | .ow _ => true
  | .io _ => true
  | .oi _ _ _ => true
  | _ => false

/-- fixed through a body: where the lent things stand, what else is protected -/
structure Sit where
  anc : Nat → Addr
  pr : Hp

section
variable (K : PySem.W.Frag) (mg : Str → Option Value) (T : Sit)
def SlR (F H : Hp) (i : Nat) (s : Option (Option V)) : Sl → Prop
  | .no => True
  | .fz d => ∃ v, s = some (some v) ∧ Rep K mg F d v
  | .ow xs => ∃ a vs, s = some (some (.ref a)) ∧ F a = none ∧ H a = some (.lst vs) ∧ RepL K mg F xs vs
  | .io xs => s = some (some (.ref (T.anc i))) ∧ F (T.anc i) = none ∧ ∃ vs, H (T.anc i) = some (.lst vs) ∧ RepL K mg F xs vs
  | .oi c ns ds => s = some (some (.ref (T.anc i))) ∧ F (T.anc i) = none ∧ ∃ C dx fs, mg c = some (.ref C) ∧ H (T.anc i) = some (.ins C dx fs) ∧ fs.map (·.1) = ns ∧ RepL K mg F ds (fs.map (·.2))
structure SR (F H : Hp) (σ : St) (ρ : List Sl) : Prop where
  sub : Same F H
  pr : Same T.pr H
  pf : ∀ a o, T.pr a = some o → F a = none
  sl : ∀ i, SlR K mg T F H i σ[i]? (ρ.getD i .no)
  po : ∀ i a, (ρ.getD i .no).own = true → σ[i]? = some (some (.ref a)) → T.pr a = none
  ap : ∀ i j a, (ρ.getD i .no).own = true → (ρ.getD j .no).own = true → σ[i]? = some (some (.ref a)) → σ[j]? = some (some (.ref a)) → i = j
  len : ρ.length = σ.length
end

/-- the heap has grown, the frozen part with it -/
structure Grow (F H F' H' : Hp) : Prop where
  f : Same F F'
  h : Same H H'
  s : Same F' H'
  k : ∀ a o, H a = some o → F a = none → F' a = none
theorem Grow.refl {F H : Hp} (s : Same F H) : Grow F H F H := ⟨Same.refl _, Same.refl _, s, fun _ _ _ h => h⟩
theorem Grow.trans {F H F1 H1 F2 H2 : Hp} (a : Grow F H F1 H1) (b : Grow F1 H1 F2 H2) : Grow F H F2 H2 :=
  ⟨a.f.trans b.f, a.h.trans b.h, b.s, fun x o e n => b.k x o (a.h x o e) (a.k x o e n)⟩
/-- a new object, frozen at once -/
theorem Grow.new {F H : Hp} {p : Addr} {o : HO} (s : Same F H) (n : H p = none) : Grow F H (upd F p o) (upd H p o) := by
  have nf : F p = none := s.free n
  refine ⟨fun b u e => ?_, fun b u e => ?_, fun b u e => ?_, fun b u e z => ?_⟩
  · rw [upd_ne (ne_of_none e nf)]; exact e
  · rw [upd_ne (ne_of_none e n)]; exact e
  · by_cases q : b = p
    · subst q
      rw [upd_same] at e ⊢
      exact e
    · rw [upd_ne q] at e ⊢
      exact s _ _ e
  · rw [upd_ne (ne_of_none e n)]; exact z

section
variable {K : PySem.W.Frag} {mg : Str → Option Value} {T : Sit} {F H F' H' : Hp} {σ : St} {ρ : List Sl}
theorem SlR.grow {i : Nat} {s : Option (Option V)} {x : Sl} (g : Grow F H F' H') (h : SlR K mg T F H i s x) : SlR K mg T F' H' i s x := by
  cases x with
  | no => trivial
  | fz d => obtain ⟨v, e, r⟩ := h; exact ⟨v, e, r.mono g.f⟩
  | ow xs => obtain ⟨a, vs, e, n, q, r⟩ := h; exact ⟨a, vs, e, g.k _ _ q n, g.h _ _ q, r.mono g.f⟩
  | io xs => obtain ⟨e, n, vs, q, r⟩ := h; exact ⟨e, g.k _ _ q n, vs, g.h _ _ q, r.mono g.f⟩
  | oi c ns ds => obtain ⟨e, n, C, dx, fs, m, q, z, r⟩ := h; exact ⟨e, g.k _ _ q n, C, dx, fs, m, g.h _ _ q, z, r.mono g.f⟩
theorem SR.grow (h : SR K mg T F H σ ρ) (g : Grow F H F' H') : SR K mg T F' H' σ ρ :=
  ⟨g.s, h.pr.trans g.h, fun a o e => g.k a o (h.pr a o e) (h.pf a o e), fun i => (h.sl i).grow g, h.po, h.ap, h.len⟩
/-- an owned slot's place -/
theorem SR.at_ (h : SR K mg T F H σ ρ) {i : Nat} (e : (ρ.getD i .no).own = true) : ∃ a o, σ[i]? = some (some (.ref a)) ∧ F a = none ∧ H a = some o := by
  have q := h.sl i
  cases z : ρ.getD i .no with
  | no => rw [z] at e; cases e
  | fz d => rw [z] at e; cases e
  | ow xs => rw [z] at q; obtain ⟨a, vs, e, n, q, r⟩ := q; exact ⟨a, _, e, n, q⟩
  | io xs => rw [z] at q; obtain ⟨e, n, vs, q, r⟩ := q; exact ⟨_, _, e, n, q⟩
  | oi c ns ds => rw [z] at q; obtain ⟨e, n, C, dx, fs, m, q, _⟩ := q; exact ⟨_, _, e, n, q⟩
end

/-! ### the plain meanings -/
inductive R (α : Type) where
  | ok (a : α) (ρ : List Sl)
  | ex (c : Str) (ns : List Str) (ds : List D) (ρ : List Sl)
  | bad
abbrev EM (α : Type) := List Sl → R α
def R.bind {α β : Type} (r : R α) (g : α → EM β) : R β := match r with
  | .ok a ρ => g a ρ
  | .ex c ns ds ρ => .ex c ns ds ρ
  | .bad => .bad
def EM.bind {α β : Type} (f : EM α) (g : α → EM β) : EM β := fun ρ => (f ρ).bind g
def EM.ret {α : Type} (a : α) : EM α := fun ρ => .ok a ρ
def EM.opt {α : Type} (o : Option α) : EM α := fun ρ => match o with
  | some a => .ok a ρ
  | none => .bad

section
variable (K : PySem.W.Frag) (mg : Str → Option Value) (T : Sit) (W : WX)
/-- an exception's own dict -/
def XdR (F _H : Hp) (dx : Option Addr) (ns : List Str) (ds : List D) : Prop := ns = [] ∨ ∃ d fs, dx = some d ∧ F d = some (.xd fs) ∧ fs.map (·.1) = ns ∧ RepL K mg F ds (fs.map (·.2))
def Post {α β : Type} (rep : Hp → Hp → St → List Sl → α → β → Prop) (F : Hp) (σ : St) (Q : β → Hp → Prop) : R α → Prop
  | .ok a ρ' => ∀ b F' H', Same F F' → SR K mg T F' H' σ ρ' → rep F' H' σ ρ' a b → Q b H'
  | .ex c ns ds ρ' => ∀ C dx F' H', Same F F' → SR K mg T F' H' σ ρ' → mg c = some (.ref C) → XdR K mg F' H' dx ns ds → W (.ref C) dx σ H'
  | .bad => False
def tG {α β : Type} (rep : Sit → Hp → Hp → St → List Sl → α → β → Prop) (f : EM α) : St → Hp → (β → Hp → Prop) → Prop := fun σ H Q => ∃ T F ρ, SR K mg T F H σ ρ ∧ Post K mg T W (rep T) F σ Q (f ρ)
abbrev repE : Hp → Hp → St → List Sl → D → V → Prop := fun F _ _ _ d v => Rep K mg F d v
abbrev repA : Hp → Hp → St → List Sl → List D → List V → Prop := fun F _ _ _ d v => RepL K mg F d v
abbrev repT : Hp → Hp → St → List Sl → Bool → Bool → Prop := fun _ _ _ _ b c => b = c
/-- a list of one's own, just made -/
def repO : Hp → Hp → St → List Sl → List D → V → Prop := fun F H σ ρ ds v => ∃ a vs, v = .ref a ∧ F a = none ∧ H a = some (.lst vs) ∧ RepL K mg F ds vs ∧ T.pr a = none ∧ ∀ i, (ρ.getD i .no).own = true → σ[i]? ≠ some (some (.ref a))
abbrev tE (f : EM D) : TE := tG K mg W (fun _ => repE K mg) f
abbrev tA (f : EM (List D)) : TA := tG K mg W (fun _ => repA K mg) f
abbrev tT (f : EM Bool) : TT := tG K mg W (fun _ => repT) f
abbrev tO (f : EM (List D)) : TE := tG K mg W (fun T => repO K mg T) f
end
section
variable {K : PySem.W.Frag} {mg : Str → Option Value} {T : Sit} {W : WX} {F F1 : Hp} {σ : St} {α β γ δ : Type} {rep : Hp → Hp → St → List Sl → α → β → Prop} {rep2 : Hp → Hp → St → List Sl → γ → δ → Prop}
theorem Post.mono {Q : β → Hp → Prop} {r : R α} (s : Same F F1) (h : Post K mg T W rep F σ Q r) : Post K mg T W rep F1 σ Q r := by
  cases r with
  | ok a ρ => exact fun b F' H' s' => h b F' H' (s.trans s')
  | ex c ns ds ρ => exact fun C dx F' H' s' => h C dx F' H' (s.trans s')
  | bad => exact h
theorem Post.imp {Q Q' : β → Hp → Prop} {r : R α} (h : Post K mg T W rep F σ Q r) (k : ∀ b H, Q b H → Q' b H) : Post K mg T W rep F σ Q' r := by
  cases r with
  | ok a ρ => exact fun b F' H' s sr z => k _ _ (h b F' H' s sr z)
  | ex c ns ds ρ => exact h
  | bad => exact h
theorem Post.bind {Q : δ → Hp → Prop} {r : R α} {g : α → EM γ} (h : Post K mg T W rep2 F σ Q (r.bind g)) :
    Post K mg T W rep F σ (fun b H1 => ∃ a F1 ρ1, SR K mg T F1 H1 σ ρ1 ∧ rep F1 H1 σ ρ1 a b ∧ Post K mg T W rep2 F1 σ Q (g a ρ1)) r := by
  cases r with
  | ok a ρ => exact fun b F' H' s sr z => ⟨a, F', ρ, sr, z, Post.mono s h⟩
  | ex c ns ds ρ => exact h
  | bad => exact h
/-- the same, keeping how the frozen part has grown -/
theorem Post.bind' {Q : δ → Hp → Prop} {r : R α} {g : α → EM γ} (h : Post K mg T W rep2 F σ Q (r.bind g)) :
    Post K mg T W rep F σ (fun b H1 => ∃ a F1 ρ1, r = .ok a ρ1 ∧ Same F F1 ∧ SR K mg T F1 H1 σ ρ1 ∧ rep F1 H1 σ ρ1 a b ∧ Post K mg T W rep2 F1 σ Q (g a ρ1)) r := by
  cases r with
  | ok a ρ => exact fun b F' H' s sr z => ⟨a, F', ρ, rfl, s, sr, z, Post.mono s h⟩
  | ex c ns ds ρ => exact h
  | bad => exact h
theorem Post.ok_of {Q : β → Hp → Prop} {H : Hp} {ρ : List Sl} {a : α} (h : Post K mg T W rep F σ Q (.ok a ρ)) (sr : SR K mg T F H σ ρ) {b : β} (z : rep F H σ ρ a b) : Q b H := h b F H (Same.refl _) sr z
theorem Post.ok_grow {Q : β → Hp → Prop} {H F' H' : Hp} {ρ : List Sl} {a : α} (h : Post K mg T W rep F σ Q (.ok a ρ)) (sr : SR K mg T F H σ ρ) (g : Grow F H F' H') {b : β} (z : rep F' H' σ ρ a b) : Q b H' := h b F' H' g.f (sr.grow g) z
end

/-! ### statements -/
inductive Fl where
  | nx | rt (d : D) | bk | ct
section
variable (K : PySem.W.Frag) (mg : Str → Option Value) (T : Sit) (W : WX)
def PostS (F : Hp) (E : Ends) : R Fl → Prop
  | .ok .nx ρ' => ∀ σ' F' H', Same F F' → SR K mg T F' H' σ' ρ' → E.nx σ' H'
  | .ok (.rt d) ρ' => ∀ σ' v F' H', Same F F' → SR K mg T F' H' σ' ρ' → Rep K mg F' d v → E.rt v H'
  | .ok .bk ρ' => ∀ σ' F' H', Same F F' → SR K mg T F' H' σ' ρ' → E.bk σ' H'
  | .ok .ct ρ' => ∀ σ' F' H', Same F F' → SR K mg T F' H' σ' ρ' → E.ct σ' H'
  | .ex c ns ds ρ' => ∀ σ' C dx F' H', Same F F' → SR K mg T F' H' σ' ρ' → mg c = some (.ref C) → XdR K mg F' H' dx ns ds → W (.ref C) dx σ' H'
  | .bad => False
def tS (f : EM Fl) : TS := fun E σ H => ∃ T F ρ, SR K mg T F H σ ρ ∧ PostS K mg T W F E (f ρ)
end
section
variable {K : PySem.W.Frag} {mg : Str → Option Value} {T : Sit} {W : WX} {F F1 : Hp} {σ : St}
theorem PostS.mono {E : Ends} {r : R Fl} (s : Same F F1) (h : PostS K mg T W F E r) : PostS K mg T W F1 E r := by
  cases r with
  | ok a ρ =>
    cases a with
    | nx => exact fun σ' F' H' s' => h σ' F' H' (s.trans s')
    | rt d => exact fun σ' v F' H' s' => h σ' v F' H' (s.trans s')
    | bk => exact fun σ' F' H' s' => h σ' F' H' (s.trans s')
    | ct => exact fun σ' F' H' s' => h σ' F' H' (s.trans s')
  | ex c ns ds ρ => exact fun σ' C dx F' H' s' => h σ' C dx F' H' (s.trans s')
  | bad => exact h
/-- an expression, then a statement's rest -/
theorem PostS.bind {α β : Type} {rep : Hp → Hp → St → List Sl → α → β → Prop} {E : Ends} {r : R α} {g : α → EM Fl} (h : PostS K mg T W F E (r.bind g)) :
    Post K mg T W rep F σ (fun b H1 => ∃ a F1 ρ1, Same F F1 ∧ SR K mg T F1 H1 σ ρ1 ∧ rep F1 H1 σ ρ1 a b ∧ PostS K mg T W F1 E (g a ρ1)) r := by
  cases r with
  | ok a ρ => exact fun b F' H' s sr z => ⟨a, F', ρ, s, sr, z, PostS.mono s h⟩
  | ex c ns ds ρ => exact h σ
  | bad => exact h
end
end DL

set_option Elab.async false
set_option linter.all false
set_option maxRecDepth 100000
set_option maxHeartbeats 4000000
/-! DR1: how the state relation moves; the rules of expressions. -/
namespace DL
open PySem PySem.Spec L2
open PyProof.Rows hiding St

section
variable {X : Cx}
theorem _root_.L2.PE.imp {e : Expr} {t t' : TE} (h : PE X e t) (k : ∀ σ H Q, t' σ H Q → t σ H Q) : PE X e t' := ⟨fun pins s σ H Q I q => h.run pins s σ H Q I (k σ H Q q)⟩
theorem _root_.L2.PT.imp {e : Expr} {t t' : TT} (h : PT X e t) (k : ∀ σ H Q, t' σ H Q → t σ H Q) : PT X e t' := ⟨fun pins s σ H Q I q => h.run pins s σ H Q I (k σ H Q q)⟩
theorem _root_.L2.PW.imp {e : Expr} {t t' : TT} (h : PW X e t) (k : ∀ σ H Q, t' σ H Q → t σ H Q) : PW X e t' := ⟨fun wh pins s σ H Q I q => h.run wh pins s σ H Q I (k σ H Q q)⟩
theorem _root_.L2.PA.imp {e : List Expr} {t t' : TA} (h : PA X e t) (k : ∀ σ H Q, t' σ H Q → t σ H Q) : PA X e t' := ⟨fun pos pins s σ H Q I q => h.run pos pins s σ H Q I (k σ H Q q)⟩
theorem _root_.L2.PS.imp {e : Stmt} {t t' : TS} (h : PS X e t) (k : ∀ D σ H, t' D σ H → t D σ H) : PS X e t' := ⟨fun pins s σ H Q I q => h.run pins s σ H Q I (k Q σ H q)⟩
theorem _root_.L2.PSs.imp {e : List Stmt} {t t' : TS} (h : PSs X e t) (k : ∀ D σ H, t' D σ H → t D σ H) : PSs X e t' := ⟨fun pins s σ H Q I q => h.run pins s σ H Q I (k Q σ H q)⟩
end

theorem same_upd {F : Hp} {a : Addr} {o : HO} (n : F a = none) : Same F (upd F a o) := fun b u e => by
  rw [upd_ne (ne_of_none e n)]
  exact e
theorem getD_set {ρ : List Sl} {i j : Nat} {x : Sl} : (ρ.set i x).getD j .no = if i = j ∧ j < ρ.length then x else ρ.getD j .no := by
  rw [List.getD_eq_getElem?_getD, List.getD_eq_getElem?_getD, List.getElem?_set]
  by_cases h : i = j
  · subst h
    by_cases h2 : i < ρ.length
    · simp [h2]
    · simp [h2]
  · simp [h]
theorem getD_big {ρ : List Sl} {i : Nat} (h : ¬ i < ρ.length) : ρ.getD i .no = .no := by
  rw [List.getD_eq_getElem?_getD, List.getElem?_eq_none (Nat.le_of_not_lt h)]
  rfl

section
variable {K : PySem.W.Frag} {mg : Str → Option Value} {T : Sit} {F H F' H' : Hp} {σ : St} {ρ : List Sl}
theorem SR.lt (h : SR K mg T F H σ ρ) {i : Nat} {x : Option V} (e : σ[i]? = some x) : i < ρ.length := by
  rw [h.len]
  exact (List.getElem?_eq_some_iff.mp e).1
/-- a thing at a is frozen from now on -/
theorem SR.freezeAt (h : SR K mg T F H σ ρ) {a : Addr} {o : HO} (n : F a = none) (q : H a = some o) (p : T.pr a = none) (no : ∀ i, (ρ.getD i .no).own = true → σ[i]? ≠ some (some (.ref a))) : SR K mg T (upd F a o) H σ ρ := by
  have s := same_upd (o := o) n
  refine ⟨fun b u e => ?_, h.pr, fun b u e => ?_, fun i => ?_, h.po, h.ap, h.len⟩
  · by_cases z : b = a
    · subst z
      rw [upd_same] at e
      rw [q, e]
    · rw [upd_ne z] at e
      exact h.sub _ _ e
  · have z : b ≠ a := fun z => by
      subst z
      rw [p] at e
      cases e
    rw [upd_ne z]
    exact h.pf _ _ e
  · have w := h.sl i
    have ni := no i
    cases z : ρ.getD i .no with
    | no => trivial
    | fz d =>
      rw [z] at w
      obtain ⟨v, e, r⟩ := w
      exact ⟨v, e, r.mono s⟩
    | ow xs =>
      rw [z] at w ni
      obtain ⟨b, vs, e, m, q', r⟩ := w
      have ne : b ≠ a := fun z => ni rfl (by rw [e, z])
      exact ⟨b, vs, e, by rw [upd_ne ne]; exact m, q', r.mono s⟩
    | io xs =>
      rw [z] at w ni
      obtain ⟨e, m, vs, q', r⟩ := w
      have ne : T.anc i ≠ a := fun z => ni rfl (by rw [e, z])
      exact ⟨e, by rw [upd_ne ne]; exact m, vs, q', r.mono s⟩
    | oi c ns ds =>
      rw [z] at w ni
      obtain ⟨e, m, C, dx, fs, m', q', r', r⟩ := w
      have ne : T.anc i ≠ a := fun z => ni rfl (by rw [e, z])
      exact ⟨e, by rw [upd_ne ne]; exact m, C, dx, fs, m', q', r', r.mono s⟩
/-- a slot is spoken of otherwise, the state as it is -/
theorem SR.put (h : SR K mg T F H σ ρ) (i : Nat) {x : Sl} (hx : SlR K mg T F H i σ[i]? x) (hp : x.own = true → (ρ.getD i .no).own = true) : SR K mg T F H σ (ρ.set i x) := by
  have ow : ∀ j, ((ρ.set i x).getD j .no).own = true → (ρ.getD j .no).own = true := fun j e => by
    rw [getD_set] at e
    by_cases z : i = j ∧ j < ρ.length
    · rw [if_pos z] at e
      rw [← z.1]
      exact hp e
    · rw [if_neg z] at e
      exact e
  refine ⟨h.sub, h.pr, h.pf, fun j => ?_, fun j a e => h.po j a (ow j e), fun j k a e1 e2 => h.ap j k a (ow j e1) (ow k e2), by rw [List.length_set]; exact h.len⟩
  rw [getD_set]
  by_cases z : i = j ∧ j < ρ.length
  · rw [if_pos z, ← z.1]
    exact hx
  · rw [if_neg z]
    exact h.sl j
/-- a slot is stored -/
theorem SR.store (h : SR K mg T F H σ ρ) (i : Nat) {v : V} {x : Sl} (hx : SlR K mg T F H i (some (some v)) x) (hp : x.own = true → ∀ a, v = .ref a → T.pr a = none ∧ ∀ j, (ρ.getD j .no).own = true → σ[j]? ≠ some (some (.ref a))) :
    SR K mg T F H (σ.set i (some v)) (ρ.set i x) := by
  have hl : ∀ j, j < ρ.length ↔ j < σ.length := fun j => by rw [h.len]
  have at_ : ∀ j, (σ.set i (some v))[j]? = if i = j ∧ j < ρ.length then some (some v) else σ[j]? := fun j => by
    rw [List.getElem?_set]
    by_cases z : i = j
    · subst z
      by_cases z2 : i < ρ.length
      · rw [if_pos rfl, if_pos ((hl _).mp z2), if_pos ⟨rfl, z2⟩]
      · rw [if_pos rfl, if_neg (fun q => z2 ((hl _).mpr q)), if_neg (fun q => z2 q.2), List.getElem?_eq_none (by rw [← h.len]; omega)]
    · rw [if_neg z, if_neg (fun q => z q.1)]
  refine ⟨h.sub, h.pr, h.pf, fun j => ?_, fun j a e1 e2 => ?_, fun j k a e1 e2 e3 e4 => ?_, by rw [List.length_set, List.length_set]; exact h.len⟩
  · rw [at_, getD_set]
    by_cases z : i = j ∧ j < ρ.length
    · rw [if_pos z, if_pos z, ← z.1]
      exact hx
    · rw [if_neg z, if_neg z]
      exact h.sl j
  · rw [at_] at e2
    rw [getD_set] at e1
    by_cases z : i = j ∧ j < ρ.length
    · rw [if_pos z] at e1 e2
      exact (hp e1 a (Option.some.inj (Option.some.inj e2))).1
    · rw [if_neg z] at e1 e2
      exact h.po j a e1 e2
  · rw [at_] at e3 e4
    rw [getD_set] at e1 e2
    by_cases z : i = j ∧ j < ρ.length
    · rw [if_pos z] at e1 e3
      by_cases z' : i = k ∧ k < ρ.length
      · exact z.1.symm.trans z'.1
      · rw [if_neg z'] at e2 e4
        exact absurd e4 ((hp e1 a (Option.some.inj (Option.some.inj e3))).2 k e2)
    · rw [if_neg z] at e1 e3
      by_cases z' : i = k ∧ k < ρ.length
      · rw [if_pos z'] at e2 e4
        exact absurd e3 ((hp e2 a (Option.some.inj (Option.some.inj e4))).2 j e1)
      · rw [if_neg z'] at e2 e4
        exact h.ap j k a e1 e2 e3 e4
/-- what one's own slot j holds is changed -/
theorem SR.change (h : SR K mg T F H σ ρ) {j : Nat} {a0 : Addr} (oj : (ρ.getD j .no).own = true) (ej : σ[j]? = some (some (.ref a0))) (sf : Same F F') (sh : Same F' H')
    (kp : ∀ a o, a ≠ a0 → H a = some o → F a = none → H' a = some o ∧ F' a = none) {x : Sl} (hx : SlR K mg T F' H' j σ[j]? x) : SR K mg T F' H' σ (ρ.set j x) := by
  have ow : ∀ i, ((ρ.set j x).getD i .no).own = true → (ρ.getD i .no).own = true := fun i e => by
    rw [getD_set] at e
    by_cases z : j = i ∧ i < ρ.length
    · rw [← z.1]
      exact oj
    · rw [if_neg z] at e
      exact e
  have np : ∀ a o, T.pr a = some o → a ≠ a0 := fun a o e z => by
    rw [z, h.po j a0 oj ej] at e
    cases e
  refine ⟨sh, fun a o e => (kp a o (np a o e) (h.pr a o e) (h.pf a o e)).1, fun a o e => (kp a o (np a o e) (h.pr a o e) (h.pf a o e)).2, fun i => ?_, fun i a e => h.po i a (ow i e), fun i k a e1 e2 => h.ap i k a (ow i e1) (ow k e2), by rw [List.length_set]; exact h.len⟩
  rw [getD_set]
  by_cases z : j = i ∧ i < ρ.length
  · rw [if_pos z, ← z.1]
    exact hx
  · rw [if_neg z]
    have w := h.sl i
    have hj : j < ρ.length := by
      by_cases q : j < ρ.length
      · exact q
      · rw [getD_big q] at oj
        cases oj
    have hij : ∀ a, (ρ.getD i .no).own = true → σ[i]? = some (some (.ref a)) → a ≠ a0 := fun a o1 e1 q => by
      have e := h.ap i j a o1 oj e1 (by rw [ej, q])
      exact z ⟨e.symm, by rw [e]; exact hj⟩
    cases q : ρ.getD i .no with
    | no => trivial
    | fz d =>
      rw [q] at w
      obtain ⟨v, e, r⟩ := w
      exact ⟨v, e, r.mono sf⟩
    | ow xs =>
      rw [q] at w hij
      obtain ⟨b, vs, e, m, q', r⟩ := w
      obtain ⟨k1, k2⟩ := kp b _ (hij b rfl e) q' m
      exact ⟨b, vs, e, k2, k1, r.mono sf⟩
    | io xs =>
      rw [q] at w hij
      obtain ⟨e, m, vs, q', r⟩ := w
      obtain ⟨k1, k2⟩ := kp _ _ (hij _ rfl e) q' m
      exact ⟨e, k2, vs, k1, r.mono sf⟩
    | oi c ns ds =>
      rw [q] at w hij
      obtain ⟨e, m, C, dx, fs, m', q', r', r⟩ := w
      obtain ⟨k1, k2⟩ := kp _ _ (hij _ rfl e) q' m
      exact ⟨e, k2, C, dx, fs, m', k1, r', r.mono sf⟩
/-- .. the frozen part as it is -/
theorem SR.write (h : SR K mg T F H σ ρ) {j : Nat} {a0 : Addr} (oj : (ρ.getD j .no).own = true) (ej : σ[j]? = some (some (.ref a0))) {o : HO} {x : Sl} (hx : SlR K mg T F (upd H a0 o) j σ[j]? x) : SR K mg T F (upd H a0 o) σ (ρ.set j x) := by
  obtain ⟨a, u, e, n, q⟩ := h.at_ oj
  rw [ej] at e
  cases e
  refine h.change oj ej (Same.refl _) (fun b u e => ?_) (fun b u ne e n => ⟨by rw [upd_ne ne]; exact e, n⟩) hx
  rw [upd_ne (ne_of_none e n)]
  exact h.sub _ _ e
end

/-! ### names, constants -/
def eVar (i : Nat) : EM D := fun ρ => match ρ.getD i .no with
  | .fz d => .ok d ρ
  | .ow xs => .ok (.lst xs) (ρ.set i (.fz (.lst xs)))
  | _ => .bad
section
variable {X : Cx} {W : WX}
theorem de_var {e : Expr} (i : Nat) (h : PE X e (tVar i)) : PE X e (tE X.K X.mg W (eVar i)) := h.imp fun σ H Q ⟨T, F, ρ, sr, h⟩ => by
  unfold eVar at h
  have w := sr.sl i
  cases z : ρ.getD i .no with
  | fz d =>
    rw [z] at h w
    obtain ⟨v, e, r⟩ := w
    exact ⟨v, e, h.ok_of sr r⟩
  | ow xs =>
    rw [z] at h w
    obtain ⟨a, vs, e, n, q, r⟩ := w
    have oi : (ρ.getD i .no).own = true := by rw [z]; rfl
    have sr1 : SR X.K X.mg T F H σ (ρ.set i .no) := sr.put i trivial (fun z => by cases z)
    have sr2 := sr1.freezeAt n q (sr.po i a oi e) (fun j o1 e1 => by
      rw [getD_set] at o1
      by_cases z2 : i = j ∧ j < ρ.length
      · rw [if_pos z2] at o1
        cases o1
      · rw [if_neg z2] at o1
        have ee := sr.ap i j a oi o1 e e1
        exact z2 ⟨ee, by rw [← ee]; exact sr.lt e⟩)
    have rp : Rep X.K X.mg (upd F a (.lst vs)) (.lst xs) (.ref a) := by
      unfold Rep
      exact ⟨a, vs, rfl, upd_same, r.mono (same_upd n)⟩
    have sr3 := sr2.put i (x := .fz (.lst xs)) ⟨_, e, rp⟩ (fun z => by cases z)
    rw [List.set_set] at sr3
    exact ⟨.ref a, e, h (.ref a) (upd F a (.lst vs)) H (same_upd n) sr3 rp⟩
  | no => rw [z] at h; exact h.elim
  | io xs => rw [z] at h; exact h.elim
  | oi c ns ds => rw [z] at h; exact h.elim
theorem de_const {e : Expr} {v : V} {d : D} (h : PE X e (tC v)) (r : ∀ F, Rep X.K X.mg F d v) : PE X e (tE X.K X.mg W (EM.ret d)) := h.imp fun σ H Q ⟨T, F, ρ, sr, h⟩ => h.ok_of sr (r F)
theorem de_int {i : Int} {j pos} : PE X (.Constant (.int i) j pos) (tE X.K X.mg W (EM.ret (.int i))) := de_const pe_int fun F => rep_int.mpr rfl
theorem de_bl {b : Bool} {j pos} : PE X (.Constant (.bool b) j pos) (tE X.K X.mg W (EM.ret (.bl b))) := de_const pe_bl fun F => rep_bl.mpr rfl
theorem de_non {j pos} : PE X (.Constant .none j pos) (tE X.K X.mg W (EM.ret .non)) := de_const pe_non fun F => rep_non.mpr rfl
theorem de_str {x : Str} {j pos} : PE X (.Constant (.str x) j pos) (tE X.K X.mg W (EM.ret (.str x))) := de_const pe_str fun F => rep_str.mpr rfl
/-- a constant of the module -/
def ConD (K : PySem.W.Frag) (mg : Str → Option Value) (x : Str) (d : D) : Prop := ∃ v u, mg x = some u ∧ RelV v u ∧ ∀ F, Rep K mg F d v
theorem de_glob {x : Str} {d : D} {pos : Pos} (c : ConD X.K X.mg x d) (hg : Gl X x) (hd : (x == ("__debug__" : Str)) = false := by decide) : PE X (.Name x pos) (tE X.K X.mg W (EM.ret d)) := by
  obtain ⟨v, u, h1, h2, h3⟩ := c
  exact de_const (pe_glob hg h1 h2 hd) h3
end

/-! ### two operands -/
def e2 (g : D → D → Option D) (fa fb : EM D) : EM D := fa.bind fun x => fb.bind fun y => EM.opt (g x y)
def t2 (g : D → D → Option Bool) (fa fb : EM D) : EM Bool := fa.bind fun x => fb.bind fun y => EM.opt (g x y)
def gB (g : D → D → Option Bool) (x y : D) : Option D := (g x y).map D.bl
/-- the operation r on values is g on data -/
def OpD (K : PySem.W.Frag) (mg : Str → Option Value) (r : R2) (g : D → D → Option D) : Prop :=
  ∀ (F H : Hp) (x y : D) (v w : V) (d : D) (Q : VK), Same F H → Rep K mg F x v → Rep K mg F y w → g x y = some d → (∀ u F' H', Grow F H F' H' → Rep K mg F' d u → Q u H') → r v w H Q
section
variable {X : Cx} {W : WX} {a b : Expr} {fa fb : EM D} {pos : Pos} {r : R2} {g : D → D → Option D} {gt : D → D → Option Bool}
theorem op_go {K : PySem.W.Frag} {mg : Str → Option Value} (hg : OpD K mg r g) (σ : St) (H : Hp) (Q : VK) (h : tE K mg W (e2 g fa fb) σ H Q) : tOp r (tE K mg W fa) (tE K mg W fb) σ H Q := by
  obtain ⟨T, F, ρ, sr, h⟩ := h
  refine ⟨T, F, ρ, sr, (Post.bind h).imp fun v H1 ⟨x, F1, ρ1, sr1, rx, h1⟩ => ⟨T, F1, ρ1, sr1, (Post.bind' h1).imp fun w H2 ⟨y, F2, ρ2, _, s2, sr2, ry, h2⟩ => ?_⟩⟩
  unfold EM.opt at h2
  cases z : g x y with
  | none => rw [z] at h2; exact h2.elim
  | some d =>
    rw [z] at h2
    exact hg F2 H2 x y v w d Q sr2.sub (Rep.mono s2 rx) ry z fun u F' H' gr ru => h2.ok_grow sr2 gr ru
theorem de_op {op : Operator} (ho : OpR X (binaryOp op) r) (hg : OpD X.K X.mg r g) (ha : PE X a (tE X.K X.mg W fa)) (hb : PE X b (tE X.K X.mg W fb)) : PE X (.BinOp a op b pos) (tE X.K X.mg W (e2 g fa fb)) := (pe_op ho ha hb).imp (op_go hg)
theorem de_cmp {op : CmpOp} (ho : OpR X (compareOp op) r) (hg : OpD X.K X.mg r (gB gt)) (ha : PE X a (tE X.K X.mg W fa)) (hb : PE X b (tE X.K X.mg W fb)) (hm : behindInMarks op b = false) : PE X (.Compare a [op] [b] pos) (tE X.K X.mg W (e2 (gB gt) fa fb)) := (pe_cmpR ho ha hb hm).imp (op_go hg)
theorem de_ix (hr : IxR X r) (hg : OpD X.K X.mg r g) (ha : PE X a (tE X.K X.mg W fa)) (hb : PE X b (tE X.K X.mg W fb)) (hs : PlainIx b := by exact fun _ _ => rfl) : PE X (.Subscript a b pos) (tE X.K X.mg W (e2 g fa fb)) := (pe_ix hr ha hb hs).imp (op_go hg)
theorem dt_cmp {op : CmpOp} (ho : OpR X (compareOp op) r) (hg : OpD X.K X.mg r (gB gt)) (ha : PE X a (tE X.K X.mg W fa)) (hb : PE X b (tE X.K X.mg W fb)) (hm : behindInMarks op b = false) : PT X (.Compare a [op] [b] pos) (tT X.K X.mg W (t2 gt fa fb)) :=
  (pt_cmpR ho ha hb hm).imp fun σ H Q ⟨T, F, ρ, sr, h⟩ => by
    refine ⟨T, F, ρ, sr, (Post.bind h).imp fun v H1 ⟨x, F1, ρ1, sr1, rx, h1⟩ => ⟨T, F1, ρ1, sr1, (Post.bind' h1).imp fun w H2 ⟨y, F2, ρ2, _, s2, sr2, ry, h2⟩ => ?_⟩⟩
    unfold EM.opt at h2
    cases z : gt x y with
    | none => rw [z] at h2; exact h2.elim
    | some k =>
      rw [z] at h2
      refine hg F2 H2 x y v w (.bl k) _ sr2.sub (Rep.mono s2 rx) ry (by unfold gB; rw [z]; rfl) fun u F' H' gr ru => ⟨k, rep_bl.mp ru, h2.ok_grow sr2 gr rfl⟩
/-- a value that is a bool, as a test -/
def toB : D → EM Bool
  | .bl b => EM.ret b
  | _ => fun _ => .bad
theorem dt_val {e : Expr} {f : EM D} (h : PE X e (tE X.K X.mg W f)) (he : ∀ whole, isTrue e X.env whole = (do let v ← whole; standAt e.pos; holding [v] (truthy v)) := by intro _; rfl) : PT X e (tT X.K X.mg W (f.bind toB)) :=
  (pt_val h he).imp fun σ H Q ⟨T, F, ρ, sr, h⟩ => by
    refine ⟨T, F, ρ, sr, (Post.bind h).imp fun v H1 ⟨x, F1, ρ1, sr1, rx, h1⟩ => ?_⟩
    cases x with
    | bl b => exact ⟨b, rep_bl.mp rx, h1.ok_of sr1 rfl⟩
    | _ => exact h1.elim
/-- is None -/
def isN : D → Bool
  | .non => true
  | _ => false
theorem rep_isN {K : PySem.W.Frag} {mg : Str → Option Value} {F : Hp} {d : D} {v : V} (r : Rep K mg F d v) : decide (v = .non) = isN d := by
  cases d with
  | non => rw [rep_non.mp r]; rfl
  | bl b => rw [rep_bl.mp r]; rfl
  | int i => rw [rep_int.mp r]; rfl
  | str x => rw [rep_str.mp r]; rfl
  | lst xs => unfold Rep at r; obtain ⟨a, vs, e, _⟩ := r; rw [e]; rfl
  | tup xs => unfold Rep at r; obtain ⟨a, vs, e, _⟩ := r; rw [e]; rfl
  | rd xs => unfold Rep at r; obtain ⟨a, vs, e, _⟩ := r; rw [e]; rfl
  | ins c ns ds => unfold Rep at r; obtain ⟨a, C, dx, fs, e, _⟩ := r; rw [e]; rfl
  | cls c => unfold Rep at r; obtain ⟨C, e, _⟩ := r; rw [e]; rfl
theorem de_isN {j p} (ha : PE X a (tE X.K X.mg W fa)) : PE X (.Compare a [.Is] [.Constant .none j p] pos) (tE X.K X.mg W (fa.bind fun d => EM.ret (.bl (isN d)))) :=
  (pe_cmp (pc_isN ha)).imp fun σ H Q ⟨T, F, ρ, sr, h⟩ => ⟨T, F, ρ, sr, (Post.bind h).imp fun v H1 ⟨x, F1, ρ1, sr1, rx, h1⟩ => h1.ok_of sr1 (rep_bl.mpr (by rw [rep_isN rx]))⟩
theorem de_notN {j p} (ha : PE X a (tE X.K X.mg W fa)) : PE X (.Compare a [.IsNot] [.Constant .none j p] pos) (tE X.K X.mg W (fa.bind fun d => EM.ret (.bl (!isN d)))) :=
  (pe_cmp (pc_notN ha)).imp fun σ H Q ⟨T, F, ρ, sr, h⟩ => ⟨T, F, ρ, sr, (Post.bind h).imp fun v H1 ⟨x, F1, ρ1, sr1, rx, h1⟩ => h1.ok_of sr1 (rep_bl.mpr (by rw [rep_isN rx]))⟩
theorem dt_isN {j p} (ha : PE X a (tE X.K X.mg W fa)) : PT X (.Compare a [.Is] [.Constant .none j p] pos) (tT X.K X.mg W (fa.bind fun d => EM.ret (isN d))) :=
  (pt_cmp (pc_isN ha)).imp fun σ H Q ⟨T, F, ρ, sr, h⟩ => ⟨T, F, ρ, sr, (Post.bind h).imp fun v H1 ⟨x, F1, ρ1, sr1, rx, h1⟩ => ⟨_, rfl, h1.ok_of sr1 (rep_isN rx).symm⟩⟩
theorem dt_notN {j p} (ha : PE X a (tE X.K X.mg W fa)) : PT X (.Compare a [.IsNot] [.Constant .none j p] pos) (tT X.K X.mg W (fa.bind fun d => EM.ret (!isN d))) :=
  (pt_cmp (pc_notN ha)).imp fun σ H Q ⟨T, F, ρ, sr, h⟩ => ⟨T, F, ρ, sr, (Post.bind h).imp fun v H1 ⟨x, F1, ρ1, sr1, rx, h1⟩ => ⟨_, rfl, h1.ok_of sr1 (by rw [rep_isN rx])⟩⟩
end

/-! ### and, or, not, if -/
def eAnd (fa fb : EM D) : EM D := fa.bind fun d => match d with
  | .bl true => fb
  | .bl false => EM.ret (.bl false)
  | _ => fun _ => .bad
def eOr (fa fb : EM D) : EM D := fa.bind fun d => match d with
  | .bl false => fb
  | .bl true => EM.ret (.bl true)
  | _ => fun _ => .bad
def eNot (fa : EM D) : EM D := fa.bind fun d => match d with
  | .bl b => EM.ret (.bl (!b))
  | _ => fun _ => .bad
def tAnd' (fa fb : EM Bool) : EM Bool := fa.bind fun b => if b = true then fb else EM.ret false
def tOr' (fa fb : EM Bool) : EM Bool := fa.bind fun b => if b = true then EM.ret true else fb
def tNot' (fa : EM Bool) : EM Bool := fa.bind fun b => EM.ret (!b)
def eIf (c : EM Bool) (fa fb : EM D) : EM D := c.bind fun b => if b = true then fa else fb
section
variable {X : Cx} {W : WX} {a b c : Expr} {rest : List Expr} {fa fb : EM D} {ta tb tc : EM Bool} {pos : Pos}
theorem de_one {op} (h : PE X a (tE X.K X.mg W fa)) : PE X (.BoolOp op [a] pos) (tE X.K X.mg W fa) := pe_one h
theorem de_and (ha : PE X a (tE X.K X.mg W fa)) (hb : PE X (.BoolOp .And (b :: rest) pos) (tE X.K X.mg W fb)) : PE X (.BoolOp .And (a :: b :: rest) pos) (tE X.K X.mg W (eAnd fa fb)) :=
  (pe_and ha hb).imp fun σ H Q ⟨T, F, ρ, sr, h⟩ => ⟨T, F, ρ, sr, (Post.bind h).imp fun v H1 ⟨x, F1, ρ1, sr1, rx, h1⟩ => by
    cases x with
    | bl k =>
      refine ⟨k, rep_bl.mp rx, ?_⟩
      cases k with
      | true => exact iteT ⟨T, F1, ρ1, sr1, h1⟩
      | false => exact iteF (h1.ok_of sr1 (rep_bl.mpr rfl))
    | _ => exact h1.elim⟩
theorem de_or (ha : PE X a (tE X.K X.mg W fa)) (hb : PE X (.BoolOp .Or (b :: rest) pos) (tE X.K X.mg W fb)) : PE X (.BoolOp .Or (a :: b :: rest) pos) (tE X.K X.mg W (eOr fa fb)) :=
  (pe_or ha hb).imp fun σ H Q ⟨T, F, ρ, sr, h⟩ => ⟨T, F, ρ, sr, (Post.bind h).imp fun v H1 ⟨x, F1, ρ1, sr1, rx, h1⟩ => by
    cases x with
    | bl k =>
      refine ⟨k, rep_bl.mp rx, ?_⟩
      cases k with
      | false => exact iteF ⟨T, F1, ρ1, sr1, h1⟩
      | true => exact iteT (h1.ok_of sr1 (rep_bl.mpr rfl))
    | _ => exact h1.elim⟩
theorem de_not (ha : PE X a (tE X.K X.mg W fa)) : PE X (.UnaryOp .Not a pos) (tE X.K X.mg W (eNot fa)) :=
  (pe_not ha).imp fun σ H Q ⟨T, F, ρ, sr, h⟩ => ⟨T, F, ρ, sr, (Post.bind h).imp fun v H1 ⟨x, F1, ρ1, sr1, rx, h1⟩ => by
    cases x with
    | bl k => exact ⟨k, rep_bl.mp rx, h1.ok_of sr1 (rep_bl.mpr rfl)⟩
    | _ => exact h1.elim⟩
theorem dw_and1 (ha : PT X a (tT X.K X.mg W ta)) : PW X (.BoolOp .And [a] pos) (tT X.K X.mg W ta) := pw_and1 ha
theorem dw_or1 (ha : PT X a (tT X.K X.mg W ta)) : PW X (.BoolOp .Or [a] pos) (tT X.K X.mg W ta) := pw_or1 ha
theorem dw_and (ha : PT X a (tT X.K X.mg W ta)) (hb : PW X (.BoolOp .And (b :: rest) pos) (tT X.K X.mg W tb)) : PW X (.BoolOp .And (a :: b :: rest) pos) (tT X.K X.mg W (tAnd' ta tb)) :=
  (pw_and ha hb).imp fun σ H Q ⟨T, F, ρ, sr, h⟩ => ⟨T, F, ρ, sr, (Post.bind h).imp fun v H1 ⟨x, F1, ρ1, sr1, rx, h1⟩ => by
    subst rx
    cases x with
    | true => exact iteT ⟨T, F1, ρ1, sr1, h1⟩
    | false => exact iteF (h1.ok_of sr1 rfl)⟩
theorem dw_or (ha : PT X a (tT X.K X.mg W ta)) (hb : PW X (.BoolOp .Or (b :: rest) pos) (tT X.K X.mg W tb)) : PW X (.BoolOp .Or (a :: b :: rest) pos) (tT X.K X.mg W (tOr' ta tb)) :=
  (pw_or ha hb).imp fun σ H Q ⟨T, F, ρ, sr, h⟩ => ⟨T, F, ρ, sr, (Post.bind h).imp fun v H1 ⟨x, F1, ρ1, sr1, rx, h1⟩ => by
    subst rx
    cases x with
    | false => exact iteF ⟨T, F1, ρ1, sr1, h1⟩
    | true => exact iteT (h1.ok_of sr1 rfl)⟩
theorem dt_not (ha : PT X a (tT X.K X.mg W ta)) : PT X (.UnaryOp .Not a pos) (tT X.K X.mg W (tNot' ta)) :=
  (pt_not ha).imp fun σ H Q ⟨T, F, ρ, sr, h⟩ => ⟨T, F, ρ, sr, (Post.bind h).imp fun v H1 ⟨x, F1, ρ1, sr1, rx, h1⟩ => by
    subst rx
    exact h1.ok_of sr1 rfl⟩
theorem de_if (hc : PT X c (tT X.K X.mg W tc)) (ha : PE X a (tE X.K X.mg W fa)) (hb : PE X b (tE X.K X.mg W fb)) : PE X (.IfExp c a b pos) (tE X.K X.mg W (eIf tc fa fb)) :=
  (pe_ifExp hc ha hb).imp fun σ H Q ⟨T, F, ρ, sr, h⟩ => ⟨T, F, ρ, sr, (Post.bind h).imp fun v H1 ⟨x, F1, ρ1, sr1, rx, h1⟩ => by
    subst rx
    cases x with
    | true => exact iteT ⟨T, F1, ρ1, sr1, h1⟩
    | false => exact iteF ⟨T, F1, ρ1, sr1, h1⟩⟩
end

/-! ### argument lists, displays -/
def aNil : EM (List D) := EM.ret []
def aCons (f : EM D) (g : EM (List D)) : EM (List D) := f.bind fun d => g.bind fun ds => EM.ret (d :: ds)
def LIM : Nat := 1000000
theorem lim_line {n : Nat} (h : n ≤ LIM) : n ≤ sizeLine := Nat.le_trans h (by rw [sizeLine_eq]; decide)
theorem lim_line' {n : Nat} (h : n < LIM) : n < sizeLine := Nat.lt_of_lt_of_le h (by rw [sizeLine_eq]; decide)
def lim {α : Type} (n : Nat) (f : EM α) : EM α := if n ≤ LIM then f else fun _ => .bad
def oLst (f : EM (List D)) : EM (List D) := f.bind fun ds => lim ds.length (EM.ret ds)
def eFz (f : EM (List D)) : EM D := f.bind fun ds => EM.ret (.lst ds)
def eTup (f : EM (List D)) : EM D := f.bind fun ds => lim ds.length (EM.ret (.tup ds))
section
variable {X : Cx} {W : WX} {e : Expr} {es : List Expr} {f : EM D} {g : EM (List D)} {pos : Pos}
theorem da_nil : PA X [] (tA X.K X.mg W aNil) := pa_nil.imp fun σ H Q ⟨T, F, ρ, sr, h⟩ => h.ok_of sr RepL.nil
theorem da_cons (ha : PE X e (tE X.K X.mg W f)) (hr : PA X es (tA X.K X.mg W g)) (hs : starEach (e :: es) X.env = (false, eval e X.env) :: starEach es X.env := by rfl) : PA X (e :: es) (tA X.K X.mg W (aCons f g)) :=
  (pa_cons ha hr hs).imp fun σ H Q ⟨T, F, ρ, sr, h⟩ => ⟨T, F, ρ, sr, (Post.bind h).imp fun v H1 ⟨x, F1, ρ1, sr1, rx, h1⟩ => ⟨T, F1, ρ1, sr1, (Post.bind' h1).imp fun vs H2 ⟨xs, F2, ρ2, _, s2, sr2, rxs, h2⟩ => h2.ok_of sr2 (RepL.cons (Rep.mono s2 rx) rxs)⟩⟩
theorem lim_ok {α β : Type} {T : Sit} {K : PySem.W.Frag} {mg : Str → Option Value} {rep : Hp → Hp → St → List Sl → α → β → Prop} {F : Hp} {σ : St} {Q : β → Hp → Prop} {n : Nat} {f : EM α} {ρ : List Sl} (h : Post K mg T W rep F σ Q (lim n f ρ)) : n ≤ LIM ∧ Post K mg T W rep F σ Q (f ρ) := by
  unfold lim at h
  by_cases z : n ≤ LIM
  · rw [if_pos z] at h
    exact ⟨z, h⟩
  · rw [if_neg z] at h
    exact h.elim
/-- a new list stands apart from all that is one's own -/
theorem repO_new {T : Sit} {K : PySem.W.Frag} {mg : Str → Option Value} {F H : Hp} {σ : St} {ρ : List Sl} (sr : SR K mg T F H σ ρ) {p : Addr} (n : H p = none) {vs : List V} {ds : List D} (r : RepL K mg F ds vs) : repO K mg T F (upd H p (.lst vs)) σ ρ ds (.ref p) := by
  refine ⟨p, vs, rfl, sr.sub.free n, upd_same, r, sr.pr.free n, fun i o e => ?_⟩
  obtain ⟨a, u, e1, _, q⟩ := sr.at_ o
  rw [e] at e1
  cases e1
  rw [n] at q
  cases q
theorem Grow.own {F H : Hp} {p : Addr} {o : HO} (s : Same F H) (n : H p = none) : Grow F H F (upd H p o) :=
  ⟨Same.refl _, same_upd n, s.trans (same_upd n), fun _ _ _ h => h⟩
theorem do_lst (h : PA X es (tA X.K X.mg W g)) : PE X (.List es pos) (tO X.K X.mg W (oLst g)) :=
  (pe_lst h).imp fun σ H Q ⟨T, F, ρ, sr, h⟩ => ⟨T, F, ρ, sr, (Post.bind h).imp fun vs H1 ⟨xs, F1, ρ1, sr1, rx, h1⟩ => by
    obtain ⟨hl, h1⟩ := lim_ok h1
    refine ⟨by rw [rx.length]; exact lim_line hl, fun p n => ?_⟩
    exact h1.ok_grow sr1 (Grow.own sr1.sub n) (repO_new sr1 n rx)⟩
/-- a list of one's own is let go of -/
theorem fz_go {K : PySem.W.Frag} {mg : Str → Option Value} (σ : St) (H : Hp) (Q : VK) (h : tE K mg W (eFz g) σ H Q) : tO K mg W g σ H Q := by
  obtain ⟨T, F, ρ, sr, h⟩ := h
  refine ⟨T, F, ρ, sr, ?_⟩
  unfold eFz EM.bind at h
  cases z : g ρ with
  | bad => rw [z] at h; exact h.elim
  | ex c ns ds ρ' => rw [z] at h; exact h
  | ok ds ρ' =>
    rw [z] at h
    intro b F' H' s sr' ⟨a, vs, e, n, q, r, p, no⟩
    subst e
    refine h (.ref a) (upd F' a (.lst vs)) H' (s.trans (same_upd n)) (sr'.freezeAt n q p no) ?_
    show Rep _ _ _ _ _
    unfold Rep
    exact ⟨a, vs, rfl, upd_same, r.mono (same_upd n)⟩
theorem de_fz (h : PE X e (tO X.K X.mg W g)) : PE X e (tE X.K X.mg W (eFz g)) := h.imp fz_go
theorem de_tup {x1} (h : PA X es (tA X.K X.mg W g)) : PE X (.Tuple es x1 pos) (tE X.K X.mg W (eTup g)) :=
  (pe_tup h).imp fun σ H Q ⟨T, F, ρ, sr, h⟩ => ⟨T, F, ρ, sr, (Post.bind h).imp fun vs H1 ⟨xs, F1, ρ1, sr1, rx, h1⟩ => by
    obtain ⟨hl, h1⟩ := lim_ok h1
    refine ⟨by rw [rx.length]; exact lim_line hl, fun p n => ?_⟩
    refine h1.ok_grow sr1 (Grow.new sr1.sub n) ?_
    show Rep _ _ _ _ _
    unfold Rep
    exact ⟨p, vs, rfl, SqT.of upd_same, rx.mono (Grow.new sr1.sub n).f⟩⟩
end
end DL

set_option Elab.async false
set_option linter.all false
set_option maxRecDepth 100000
set_option maxHeartbeats 4000000
/-! DR2: targets, sources, comprehensions, loops, statements. -/
namespace DL
open PySem PySem.Spec L2
open PyProof.Rows hiding St

/-! ### targets -/
inductive Tg where
  | nm (i : Nat) | tp (is : List Nat)
def Tg.slots : Tg → List Nat
  | .nm i => [i]
  | .tp is => is
def setL : List Nat → List D → List Sl → List Sl
  | i :: is, d :: ds, ρ => setL is ds (ρ.set i (.fz d))
  | _, _, ρ => ρ
def setT : Tg → D → List Sl → Option (List Sl)
  | .nm i, d, ρ => some (ρ.set i (.fz d))
  | .tp is, .tup ds, ρ => if is.length = ds.length then some (setL is ds ρ) else none
  | _, _, _ => none
def gL : List Nat → TGs
  | [] => gNil
  | i :: is => gCons (gName i) (gL is)
def tgR (K : PySem.W.Frag) : Tg → TG
  | .nm i => gName i
  | .tp is => gTup K is.length (gL is)
section
variable {K : PySem.W.Frag} {mg : Str → Option Value} {T : Sit} {F H : Hp} {σ : St} {ρ : List Sl}
theorem SR.storeFz (h : SR K mg T F H σ ρ) (i : Nat) {v : V} {d : D} (r : Rep K mg F d v) : SR K mg T F H (σ.set i (some v)) (ρ.set i (.fz d)) := h.store i ⟨v, rfl, r⟩ (fun z => by cases z)
/-- σ' agrees with σ outside is -/
def Agree (is : List Nat) (σ σ' : St) : Prop := σ'.length = σ.length ∧ ∀ j, j ∉ is → σ'[j]? = σ[j]?
theorem gL_ok : ∀ {is : List Nat} {ds : List D} {vs : List V} {σ : St} {ρ : List Sl} {Q : St → Hp → Prop}, SR K mg T F H σ ρ → RepL K mg F ds vs → is.length = ds.length → (∀ σ', SR K mg T F H σ' (setL is ds ρ) → Agree is σ σ' → Q σ' H) → gL is vs σ H Q
  | [], ds, vs, σ, ρ, Q, sr, r, hl, k => by
    cases ds with
    | nil =>
      unfold RepL at r
      exact ⟨r, k σ sr ⟨rfl, fun _ _ => rfl⟩⟩
    | cons _ _ => cases hl
  | i :: is, [], vs, σ, ρ, Q, sr, r, hl, k => by cases hl
  | i :: is, d :: ds, vs, σ, ρ, Q, sr, r, hl, k => by
    unfold RepL at r
    obtain ⟨v, vr, e, r1, r2⟩ := r
    refine ⟨v, vr, e, gL_ok (is := is) (ds := ds) (sr.storeFz i r1) r2 (Nat.succ.inj hl) fun σ' sr' ag => k σ' sr' ⟨by rw [ag.1, List.length_set], fun j hj => ?_⟩⟩
    have h1 : j ∉ is := fun z => hj (List.mem_cons_of_mem _ z)
    have h2 : i ≠ j := fun z => hj (by rw [z]; exact List.mem_cons_self)
    rw [ag.2 j h1, List.getElem?_set_ne h2]
theorem tg_ok {tg : Tg} {d : D} {v : V} {ρ' : List Sl} {Q : St → Hp → Prop} (sr : SR K mg T F H σ ρ) (r : Rep K mg F d v) (e : setT tg d ρ = some ρ') (k : ∀ σ', SR K mg T F H σ' ρ' → Agree tg.slots σ σ' → Q σ' H) : tgR K tg v σ H Q := by
  cases tg with
  | nm i =>
    have e : ρ.set i (.fz d) = ρ' := Option.some.inj e
    subst e
    exact k _ (sr.storeFz i r) ⟨by rw [List.length_set], fun j hj => by
      have h2 : i ≠ j := fun z => hj (by rw [z]; exact List.mem_cons_self)
      rw [List.getElem?_set_ne h2]⟩
  | tp is =>
    cases d with
    | tup ds =>
      have e : (if is.length = ds.length then some (setL is ds ρ) else none) = some ρ' := e
      by_cases hl : is.length = ds.length
      · rw [if_pos hl] at e
        cases e
        unfold Rep at r
        obtain ⟨a, vs, ev, hs, rl⟩ := r
        exact ⟨a, vs, ev, Same.tupS sr.sub hs, by rw [rl.length, hl], gL_ok sr rl hl k⟩
      · rw [if_neg hl] at e
        cases e
    | _ => cases e
end
section
variable {X : Cx}
theorem dg_nm {e : Expr} {i : Nat} (h : PG X e (gName i)) : PG X e (tgR X.K (.nm i)) := h
theorem dgs_nil : PGs X [] (gL []) := pgs_nil
theorem dgs_cons {e : Expr} {es : List Expr} {i : Nat} {is : List Nat} (h : PG X e (gName i)) (t : PGs X es (gL is)) (hs : (assignEach (e :: es) X.env).map (·.2) = assign e X.env :: (assignEach es X.env).map (·.2) := by rfl) : PGs X (e :: es) (gL (i :: is)) := pgs_cons h t hs
end

/-! ### wiping -/
theorem wipe_at {σ : St} {j : Nat} : ∀ {vs : List Nat}, j ∈ vs → (wipe σ vs)[j]? = if j < σ.length then some none else none
  | [], h => by cases h
  | v :: vs, h => by
    unfold wipe
    rw [List.getElem?_set]
    by_cases z : v = j
    · rw [if_pos z, wipe_length, z]
    · rw [if_neg z]
      rcases List.mem_cons.mp h with e | e
      · exact absurd e.symm z
      · exact wipe_at e
theorem wipe_agree {σ σ' : St} {is vs : List Nat} (h : Agree is (wipe σ vs) σ') (hs : ∀ i ∈ is, i ∈ vs) : wipe σ' vs = wipe σ vs := by
  apply List.ext_getElem?
  intro j
  by_cases z : j ∈ vs
  · rw [wipe_at z, wipe_at z, h.1, wipe_length]
  · rw [wipe_out z, h.2 j (fun q => z (hs j q))]
def wipeR (vs : List Nat) (ρ : List Sl) : List Sl := match vs with
  | [] => ρ
  | v :: vs => (wipeR vs ρ).set v .no
def keepF : Sl → Sl
  | .fz d => .fz d
  | _ => .no
def unwipe (vs : List Nat) (ρ0 ρ : List Sl) : List Sl := match vs with
  | [] => ρ
  | v :: vs => (unwipe vs ρ0 ρ).set v (keepF (ρ0.getD v .no))
theorem unwipe_own {ρ0 ρ : List Sl} {j : Nat} : ∀ {vs : List Nat}, ((unwipe vs ρ0 ρ).getD j .no).own = true → j ∉ vs ∧ (ρ.getD j .no).own = true
  | [], h => ⟨List.not_mem_nil, h⟩
  | v :: vs, h => by
    unfold unwipe at h
    rw [getD_set] at h
    by_cases z : v = j ∧ j < (unwipe vs ρ0 ρ).length
    · rw [if_pos z] at h
      unfold keepF at h
      split at h <;> cases h
    · rw [if_neg z] at h
      obtain ⟨h1, h2⟩ := unwipe_own h
      refine ⟨fun q => ?_, h2⟩
      rcases List.mem_cons.mp q with e | e
      · have hl : j < (unwipe vs ρ0 ρ).length := by
          by_cases q : j < (unwipe vs ρ0 ρ).length
          · exact q
          · rw [getD_big q] at h
            cases h
        exact z ⟨e.symm, hl⟩
      · exact h1 e
theorem unwipe_length (ρ0 ρ : List Sl) : ∀ vs : List Nat, (unwipe vs ρ0 ρ).length = ρ.length
  | [] => rfl
  | v :: vs => by
    unfold unwipe
    rw [List.length_set, unwipe_length ρ0 ρ vs]
section
variable {K : PySem.W.Frag} {mg : Str → Option Value} {T : Sit} {F H F0 H0 : Hp} {σ : St} {ρ ρ0 : List Sl}
/-- a slot is forgotten -/
theorem SR.wipe1 (h : SR K mg T F H σ ρ) (i : Nat) : SR K mg T F H (σ.set i none) (ρ.set i .no) := by
  have ow : ∀ j, ((ρ.set i .no).getD j .no).own = true → (ρ.getD j .no).own = true ∧ i ≠ j := fun j e => by
    rw [getD_set] at e
    by_cases z : i = j ∧ j < ρ.length
    · rw [if_pos z] at e
      cases e
    · rw [if_neg z] at e
      refine ⟨e, fun q => z ⟨q, ?_⟩⟩
      by_cases q : j < ρ.length
      · exact q
      · rw [getD_big q] at e
        cases e
  refine ⟨h.sub, h.pr, h.pf, fun j => ?_, fun j a e1 e2 => ?_, fun j k a e1 e2 e3 e4 => ?_, by rw [List.length_set, List.length_set]; exact h.len⟩
  · rw [getD_set]
    by_cases z : i = j ∧ j < ρ.length
    · rw [if_pos z]
      trivial
    · rw [if_neg z]
      by_cases q : i = j
      · have hl : ¬ j < ρ.length := fun w => z ⟨q, w⟩
        rw [getD_big hl]
        trivial
      · rw [List.getElem?_set_ne q]
        exact h.sl j
  · obtain ⟨o, ne⟩ := ow j e1
    rw [List.getElem?_set_ne ne] at e2
    exact h.po j a o e2
  · obtain ⟨o1, n1⟩ := ow j e1
    obtain ⟨o2, n2⟩ := ow k e2
    rw [List.getElem?_set_ne n1] at e3
    rw [List.getElem?_set_ne n2] at e4
    exact h.ap j k a o1 o2 e3 e4
theorem SR.wipe (h : SR K mg T F H σ ρ) : ∀ vs : List Nat, SR K mg T F H (L2.wipe σ vs) (wipeR vs ρ)
  | [] => h
  | v :: vs => (SR.wipe h vs).wipe1 v
/-- behind a block: its own names stand for what they stood for before -/
theorem SR.unwipe {vs : List Nat} (h0 : SR K mg T F0 H0 σ ρ0) (h : SR K mg T F H (L2.wipe σ vs) ρ) (s : Same F0 F) : SR K mg T F H σ (DL.unwipe vs ρ0 ρ) := by
  have ats : ∀ j, ((DL.unwipe vs ρ0 ρ).getD j .no).own = true → (ρ.getD j .no).own = true ∧ (L2.wipe σ vs)[j]? = σ[j]? := fun j e => by
    obtain ⟨h1, h2⟩ := unwipe_own e
    exact ⟨h2, wipe_out h1⟩
  have look : ∀ vs' j, (∀ i ∈ vs', i ∈ vs) → SlR K mg T F H j σ[j]? ((DL.unwipe vs' ρ0 ρ).getD j .no) ∨ (j ∈ vs ∧ j ∉ vs') := by
    intro vs' j
    induction vs' with
    | nil =>
      intro _
      by_cases z : j ∈ vs
      · exact .inr ⟨z, fun q => by cases q⟩
      · refine .inl ?_
        have w := h.sl j
        rw [wipe_out z] at w
        exact w
    | cons v vs' ih =>
      intro hs
      unfold DL.unwipe
      rw [getD_set]
      by_cases z : v = j ∧ j < (DL.unwipe vs' ρ0 ρ).length
      · rw [if_pos z, z.1]
        refine .inl ?_
        have w := h0.sl j
        cases q : ρ0.getD j .no with
        | fz d =>
          rw [q] at w
          obtain ⟨u, e, r⟩ := w
          exact ⟨u, e, r.mono s⟩
        | _ => trivial
      · rw [if_neg z]
        rcases ih (fun i hi => hs i (List.mem_cons_of_mem _ hi)) with w | ⟨w1, w2⟩
        · exact .inl w
        · by_cases q : v = j
          · have hl : ¬ j < (DL.unwipe vs' ρ0 ρ).length := fun w => z ⟨q, w⟩
            rw [getD_big hl]
            exact .inl trivial
          · exact .inr ⟨w1, fun w => (List.mem_cons.mp w).elim (fun e => q e.symm) w2⟩
  refine ⟨h.sub, h.pr, h.pf, fun j => ?_, fun j a e1 e2 => ?_, fun j k a e1 e2 e3 e4 => ?_, ?_⟩
  · rcases look vs j (fun _ h => h) with w | ⟨w1, w2⟩
    · exact w
    · exact absurd w1 w2
  · obtain ⟨o, e⟩ := ats j e1
    exact h.po j a o (by rw [e]; exact e2)
  · obtain ⟨o1, f1⟩ := ats j e1
    obtain ⟨o2, f2⟩ := ats k e2
    exact h.ap j k a o1 o2 (by rw [f1]; exact e3) (by rw [f2]; exact e4)
  · rw [unwipe_length, h.len, wipe_length]
/-- the same state, where a further object is protected -/
theorem SR.guard (h : SR K mg T F H σ ρ) {p : Addr} {o : HO} (n : H p = none) : SR K mg ⟨T.anc, upd T.pr p o⟩ F (upd H p o) σ ρ := by
  obtain ⟨anc, pr⟩ := T
  have np : pr p = none := h.pr.free n
  have nf : F p = none := h.sub.free n
  have ne : ∀ i a, (ρ.getD i .no).own = true → σ[i]? = some (some (.ref a)) → a ≠ p := fun i a o e z => by
    obtain ⟨b, u, e1, _, q⟩ := h.at_ o
    rw [e] at e1
    cases e1
    rw [z, n] at q
    cases q
  have g := h.grow (Grow.own (o := o) h.sub n)
  refine ⟨g.sub, fun b u (e : upd pr p _ b = some u) => ?_, fun b u (e : upd pr p _ b = some u) => ?_, fun i => ?_, fun i a o e => ?_, g.ap, g.len⟩
  · by_cases z : b = p
    · subst z
      rw [upd_same] at e ⊢
      exact e
    · rw [upd_ne z] at e ⊢
      exact h.pr _ _ e
  · by_cases z : b = p
    · subst z
      exact nf
    · rw [upd_ne z] at e
      exact h.pf _ _ e
  · have w := g.sl i
    cases q : ρ.getD i .no with
    | no => trivial
    | fz d => rw [q] at w; exact w
    | ow xs => rw [q] at w; exact w
    | io xs => rw [q] at w; exact w
    | oi c ns ds => rw [q] at w; exact w
  · show upd pr p _ a = none
    rw [upd_ne (ne i a o e)]
    exact h.po i a o e
/-- what is protected is written by its keeper -/
theorem SR.reguard (h : SR K mg T F H σ ρ) {p : Addr} {o o' : HO} (e : T.pr p = some o) : SR K mg ⟨T.anc, upd T.pr p o'⟩ F (upd H p o') σ ρ := by
  obtain ⟨anc, pr⟩ := T
  have nf : F p = none := h.pf _ _ e
  have ne : ∀ i a, (ρ.getD i .no).own = true → σ[i]? = some (some (.ref a)) → a ≠ p := fun i a oo ee z => by
    have q := h.po i a oo ee
    rw [z, e] at q
    cases q
  refine ⟨fun b u q => ?_, fun b u (q : upd pr p _ b = some u) => ?_, fun b u (q : upd pr p _ b = some u) => ?_, fun i => ?_, fun i a oo ee => ?_, h.ap, h.len⟩
  · rw [upd_ne (ne_of_none q nf)]
    exact h.sub _ _ q
  · by_cases z : b = p
    · subst z
      rw [upd_same] at q ⊢
      exact q
    · rw [upd_ne z] at q ⊢
      exact h.pr _ _ q
  · by_cases z : b = p
    · subst z
      exact nf
    · rw [upd_ne z] at q
      exact h.pf _ _ q
  · have w := h.sl i
    have nei := ne i
    cases q : ρ.getD i .no with
    | no => trivial
    | fz d => rw [q] at w; exact w
    | ow xs =>
      rw [q] at w nei
      obtain ⟨a, vs, e1, n, q1, r⟩ := w
      exact ⟨a, vs, e1, n, by rw [upd_ne (nei a rfl e1)]; exact q1, r⟩
    | io xs =>
      rw [q] at w nei
      obtain ⟨e1, n, vs, q1, r⟩ := w
      exact ⟨e1, n, vs, by rw [upd_ne (nei _ rfl e1)]; exact q1, r⟩
    | oi c ns ds =>
      rw [q] at w nei
      obtain ⟨e1, n, C, dx, fs, m, q1, z, r⟩ := w
      exact ⟨e1, n, C, dx, fs, m, by rw [upd_ne (nei _ rfl e1)]; exact q1, z, r⟩
  · show upd pr p _ a = none
    rw [upd_ne (ne i a oo ee)]
    exact h.po i a oo ee
/-- the guard is taken away -/
theorem SR.unguard {anc : Nat → Addr} {pr : Hp} {p : Addr} {o : HO} (h : SR K mg ⟨anc, upd pr p o⟩ F H σ ρ) (n : pr p = none) : SR K mg ⟨anc, pr⟩ F H σ ρ ∧ H p = some o ∧ F p = none ∧ ∀ i, (ρ.getD i .no).own = true → σ[i]? ≠ some (some (.ref p)) := by
  have up : ∀ b u, pr b = some u → upd pr p o b = some u := fun b u e => by
    rw [upd_ne (ne_of_none e n)]
    exact e
  refine ⟨⟨h.sub, fun b u e => h.pr b u (up b u e), fun b u e => h.pf b u (up b u e), fun i => ?_, fun i a oo e => ?_, h.ap, h.len⟩, h.pr p o upd_same, h.pf p o upd_same, fun i oo e => ?_⟩
  · have w := h.sl i
    cases q : ρ.getD i .no with
    | no => trivial
    | fz d => rw [q] at w; exact w
    | ow xs => rw [q] at w; exact w
    | io xs => rw [q] at w; exact w
    | oi c ns ds => rw [q] at w; exact w
  · have q : upd pr p o a = none := h.po i a oo e
    by_cases z : a = p
    · rw [z, upd_same] at q
      cases q
    · rw [upd_ne z] at q
      exact q
  · have q : upd pr p o p = none := h.po i p oo e
    rw [upd_same] at q
    cases q
end

/-! ### sources -/
/-- what is walked: data that is frozen, one's own list in a slot, a range -/
inductive Src where
  | fz (ds : List D) | sl (j : Nat) (ds : List D) | rg (lo : Int) (n : Nat) | en (ds : List D) | zp (ds es : List D)
def Src.items : Src → List D
  | .fz ds => ds
  | .sl _ ds => ds
  | .rg lo n => (List.range n).map fun (i : Nat) => .int (lo + i)
  | .en ds => (List.range ds.length).zipWith (fun (i : Nat) d => .tup [.int i, d]) ds
  | .zp ds es => ds.zipWith (fun d e => .tup [d, e]) es
/-- what must still hold at each turn -/
def Src.still : Src → List Sl → Prop
  | .sl j ds, ρ => ρ.getD j .no = .ow ds ∨ ρ.getD j .no = .io ds
  | _, _ => True
section
variable (K : PySem.W.Frag) (mg : Str → Option Value)
/-- the iterator J walks the source S; F0: the frozen part when it was made; a0: where one's own list stands -/
def WalkS (J : It) (S : Src) (F0 : Hp) (σ0 : St) : Prop :=
  ∃ (G : Hp → Prop) (Y : Nat → Hp → V → Hp → Prop), Walk J S.items.length G Y ∧
    (∀ T F H σ ρ, SR K mg T F H σ ρ → Same F0 F → S.still ρ → (∀ j ds, S = .sl j ds → σ[j]? = σ0[j]?) → G H) ∧
    ∀ T i F H σ ρ x H', SR K mg T F H σ ρ → Same F0 F → S.still ρ → (∀ j ds, S = .sl j ds → σ[j]? = σ0[j]?) → i < S.items.length → Y i H x H' → ∃ F' d, Grow F H F' H' ∧ S.items[i]? = some d ∧ Rep K mg F' d x
def tI (W : WX) (f : EM Src) : TI := tG (β := It) K mg W (fun T F H σ ρ S J => S.still ρ ∧ WalkS K mg J S F σ) f
end
section
variable {K : PySem.W.Frag} {mg : Str → Option Value}
theorem walk_anyL {a : Addr} {n : Nat} : Walk (Itl K a) n (fun H => ∃ vs, SqL K H a vs ∧ vs.length = n) (fun i H x H' => H' = H ∧ ∀ vs, SqL K H a vs → vs[i]? = some x) :=
  ⟨fun i _ hi ⟨vs, q, e⟩ => ⟨vs, vs[i]'(by omega), q, by simp⟩, fun _ ⟨vs, q, e⟩ => ⟨vs, q, by omega⟩, fun _ _ _ _ _ _ y => y⟩
theorem walkS_lst {a : Addr} {ds : List D} {vs : List V} {F0 : Hp} {σ0 : St} (q : SqL K F0 a vs) (r : RepL K mg F0 ds vs) : WalkS K mg (Itl K a) (.fz ds) F0 σ0 := by
  refine ⟨_, _, walk_anyL, fun T F H σ ρ sr s _ _ => ⟨vs, (s.trans sr.sub).seq q, r.length⟩, fun T i F H σ ρ x H' sr s _ _ hi y => ?_⟩
  obtain ⟨rfl, y⟩ := y
  obtain ⟨d, h1, h2⟩ := r.get (y vs ((s.trans sr.sub).seq q))
  exact ⟨F, d, Grow.refl sr.sub, h1, h2.mono s⟩
theorem walkS_tup {a : Addr} {ds : List D} {vs : List V} {F0 : Hp} {σ0 : St} (q : SqT K F0 a vs) (r : RepL K mg F0 ds vs) : WalkS K mg (Itt K a) (.fz ds) F0 σ0 := by
  have w : Walk (Itt K a) ds.length (fun H => SqT K H a vs) (YAt vs) := by
    rw [← r.length]
    exact walk_tup
  refine ⟨_, _, w, fun T F H σ ρ sr s _ _ => Same.tupS (s.trans sr.sub) q, fun T i F H σ ρ x H' sr s _ _ hi y => ?_⟩
  obtain ⟨rfl, y⟩ := y
  obtain ⟨d, h1, h2⟩ := r.get y
  exact ⟨F, d, Grow.refl sr.sub, h1, h2.mono s⟩
theorem walkS_sl {j : Nat} {a : Addr} {ds : List D} {F0 : Hp} {σ0 : St} (e : σ0[j]? = some (some (.ref a))) : WalkS K mg (Itl K a) (.sl j ds) F0 σ0 := by
  have at_ : ∀ T F H σ ρ, SR K mg T F H σ ρ → Src.still (.sl j ds) ρ → σ[j]? = σ0[j]? → ∃ vs, H a = some (.lst vs) ∧ RepL K mg F ds vs := fun T F H σ ρ sr st es => by
    have w := sr.sl j
    rcases st with q | q
    · rw [q] at w
      obtain ⟨b, vs, e1, n, q1, r⟩ := w
      rw [es, e] at e1
      cases e1
      exact ⟨vs, q1, r⟩
    · rw [q] at w
      obtain ⟨e1, n, vs, q1, r⟩ := w
      rw [es, e] at e1
      have ea : a = T.anc j := by injection e1 with e1; injection e1 with e1; injection e1
      rw [ea]
      exact ⟨vs, q1, r⟩
  refine ⟨_, _, walk_anyL (n := ds.length), fun T F H σ ρ sr s st es => ?_, fun T i F H σ ρ x H' sr s st es hi y => ?_⟩
  · obtain ⟨vs, q, r⟩ := at_ T F H σ ρ sr st (es j ds rfl)
    exact ⟨vs, SqL.of q, r.length⟩
  · obtain ⟨rfl, y⟩ := y
    obtain ⟨vs, q, r⟩ := at_ T F H' σ ρ sr st (es j ds rfl)
    obtain ⟨d, h1, h2⟩ := r.get (y vs (SqL.of q))
    exact ⟨F, d, Grow.refl sr.sub, h1, h2⟩
theorem walkS_rg {lo : Int} {n : Nat} {F0 : Hp} {σ0 : St} : WalkS K mg (Itr lo n) (.rg lo n) F0 σ0 := by
  have w : Walk (Itr lo n) (Src.rg lo n).items.length (fun _ => True) (YFn fun i => .int (lo + i)) := by
    have e : (Src.rg lo n).items.length = n := by simp [Src.items]
    rw [e]
    exact walk_range
  refine ⟨_, _, w, fun _ _ _ _ _ _ _ _ _ => trivial, fun T i F H σ ρ x H' sr s _ _ hi y => ?_⟩
  obtain ⟨rfl, rfl⟩ := y
  have hi' : i < n := by simpa [Src.items] using hi
  exact ⟨F, .int (lo + i), Grow.refl sr.sub, by simp [Src.items, hi'], rep_int.mpr rfl⟩
end

/-- data that may be walked -/
def seqD : D → Option (List D)
  | .lst ds => some ds
  | .tup ds => some ds
  | .rd ds => some ds
  | _ => none
def iSeq (f : EM D) : EM Src := f.bind fun d => EM.opt ((seqD d).map .fz)
/-- a name that is walked: what stands there is lent -/
def iVar (i : Nat) : EM Src := fun ρ => match ρ.getD i .no with
  | .fz d => (EM.opt ((seqD d).map .fz)) ρ
  | .ow xs => .ok (.sl i xs) ρ
  | .io xs => .ok (.sl i xs) ρ
  | _ => .bad
/-- a list or a tuple -/
def iAny (K : PySem.W.Frag) (tl : TE) : TI := fun σ H R => tl σ H fun x H1 => ∃ a, x = .ref a ∧ (((∃ xs, SqL K H1 a xs) ∧ R (Itl K a) H1) ∨ ((∃ xs, SqT K H1 a xs) ∧ R (Itt K a) H1))
section
variable {X : Cx} {W : WX} {tg : Expr}
theorem pi_any {l : Expr} {tl : TE} (hl : PE X l tl) : PI X tg l (iAny X.K tl) := by
  refine ⟨fun pins s σ H R I h => ?_⟩
  refine thn (hl.run pins s σ H _ I h) fun v s1 ⟨x, H1, I1, r1, q1⟩ => ?_
  obtain ⟨a, e, q⟩ := q1
  subst e
  cases r1
  rcases q with ⟨⟨xs, hq⟩, q⟩ | ⟨⟨xs, hq⟩, q⟩
  · obtain ⟨its, rv, p, hz⟩ := I1.list hq
    refine wpAny_pyIter_list p.isList ?_
    refine ⟨s1.heap.objs.size, [s1.heap.objs.size], _, _, H1, rfl, I1.kept (t' := s1.toks) fun b o e => Heap.get?_push_of_some _ e, turn_list a _, ⟨_, Heap.get?_push_size _ rfl, rfl, rfl⟩, fun b hb => ?_, q⟩
    have e : b = s1.heap.objs.size := by simpa using hb
    subst e
    exact I1.fpOk (Nat.le_refl _) (I1.hok.fresh (Nat.le_refl _))
  · obtain ⟨its, rv, p, hz⟩ := I1.tuple hq
    refine wpAny_pyIter_tuple (show s1.heap.IsTuple a its.toArray from p) ?_
    refine ⟨s1.heap.objs.size, [s1.heap.objs.size], _, _, H1, rfl, I1.kept (t' := s1.toks) fun b o e => Heap.get?_push_of_some _ e, turn_tuple a _, ⟨_, Heap.get?_push_size _ rfl, rfl, rfl⟩, fun b hb => ?_, q⟩
    have e : b = s1.heap.objs.size := by simpa using hb
    subst e
    exact I1.fpOk (Nat.le_refl _) (I1.hok.fresh (Nat.le_refl _))
theorem _root_.L2.PI.imp {e : Expr} {t t' : TI} (h : PI X tg e t) (k : ∀ σ H R, t' σ H R → t σ H R) : PI X tg e t' := ⟨fun pins s σ H R I q => h.run pins s σ H R I (k σ H R q)⟩
theorem seq_go {K : PySem.W.Frag} {mg : Str → Option Value} {T : Sit} {F H : Hp} {σ : St} {ρ : List Sl} {d : D} {v : V} {R : It → Hp → Prop} (sr : SR K mg T F H σ ρ) (r : Rep K mg F d v)
    (h : Post K mg T W (fun F H σ ρ S J => S.still ρ ∧ WalkS K mg J S F σ) F σ R (EM.opt ((seqD d).map .fz) ρ)) : ∃ a, v = .ref a ∧ (((∃ xs, SqL K H a xs) ∧ R (Itl K a) H) ∨ ((∃ xs, SqT K H a xs) ∧ R (Itt K a) H)) := by
  cases d with
  | lst ds =>
    unfold Rep at r
    obtain ⟨a, vs, e, q, r⟩ := r
    exact ⟨a, e, .inl ⟨⟨vs, SqL.of (sr.sub _ _ q)⟩, h.ok_of sr ⟨trivial, walkS_lst (SqL.of q) r⟩⟩⟩
  | rd ds =>
    unfold Rep at r
    obtain ⟨a, vs, e, q, r⟩ := r
    exact ⟨a, e, .inl ⟨⟨vs, sr.sub.seq q⟩, h.ok_of sr ⟨trivial, walkS_lst q r⟩⟩⟩
  | tup ds =>
    unfold Rep at r
    obtain ⟨a, vs, e, q, r⟩ := r
    exact ⟨a, e, .inr ⟨⟨vs, Same.tupS sr.sub q⟩, h.ok_of sr ⟨trivial, walkS_tup q r⟩⟩⟩
  | _ => exact h.elim
theorem di_seq {l : Expr} {f : EM D} (hl : PE X l (tE X.K X.mg W f)) : PI X tg l (tI X.K X.mg W (iSeq f)) :=
  (pi_any hl).imp fun σ H R ⟨T, F, ρ, sr, h⟩ => ⟨T, F, ρ, sr, (Post.bind h).imp fun v H1 ⟨d, F1, ρ1, sr1, rx, h1⟩ => seq_go sr1 rx h1⟩
theorem di_var {l : Expr} (i : Nat) (hl : PE X l (tVar i)) : PI X tg l (tI X.K X.mg W (iVar i)) :=
  (pi_any hl).imp fun σ H R ⟨T, F, ρ, sr, h⟩ => by
    unfold iVar at h
    have w := sr.sl i
    cases z : ρ.getD i .no with
    | fz d =>
      rw [z] at h w
      obtain ⟨v, e, r⟩ := w
      exact ⟨v, e, seq_go sr r h⟩
    | ow xs =>
      rw [z] at h w
      obtain ⟨a, vs, e, n, q, r⟩ := w
      exact ⟨.ref a, e, a, rfl, .inl ⟨⟨vs, SqL.of q⟩, h.ok_of sr ⟨.inl z, walkS_sl e⟩⟩⟩
    | io xs =>
      rw [z] at h w
      obtain ⟨e, n, vs, q, r⟩ := w
      exact ⟨_, e, _, rfl, .inl ⟨⟨vs, SqL.of q⟩, h.ok_of sr ⟨.inr z, walkS_sl e⟩⟩⟩
    | no => rw [z] at h; exact h.elim
    | oi c ns ds => rw [z] at h; exact h.elim
/-- range(n), range(a, b) -/
def gRg1 : List D → EM Src
  | [.int n] => if -(2 ^ 62) ≤ n ∧ n < 2 ^ 62 then EM.ret (.rg 0 n.toNat) else fun _ => .bad
  | _ => fun _ => .bad
def gRg2 : List D → EM Src
  | [.int a, .int b] => if -(2 ^ 62) ≤ a ∧ a < 2 ^ 62 ∧ -(2 ^ 62) ≤ b ∧ b < 2 ^ 62 then EM.ret (.rg a (b - a).toNat) else fun _ => .bad
  | _ => fun _ => .bad
def iRg1 (f : EM (List D)) : EM Src := f.bind gRg1
def iRg2 (f : EM (List D)) : EM Src := f.bind gRg2
theorem repL1 {K : PySem.W.Frag} {mg : Str → Option Value} {F : Hp} {d : D} {vs : List V} (r : RepL K mg F [d] vs) : ∃ v, vs = [v] ∧ Rep K mg F d v := by
  unfold RepL at r
  obtain ⟨v, vr, e, h1, h2⟩ := r
  unfold RepL at h2
  subst h2
  exact ⟨v, e, h1⟩
theorem repL2 {K : PySem.W.Frag} {mg : Str → Option Value} {F : Hp} {d e : D} {vs : List V} (r : RepL K mg F [d, e] vs) : ∃ v u, vs = [v, u] ∧ Rep K mg F d v ∧ Rep K mg F e u := by
  unfold RepL at r
  obtain ⟨v, vr, ev, h1, h2⟩ := r
  obtain ⟨u, eu, h2⟩ := repL1 h2
  exact ⟨v, u, by rw [ev, eu], h1, h2⟩
theorem di_rg1 {a : Expr} {f : EM (List D)} {p pos : Pos} (hg : Gl X "range") (hm : X.mg "range" = none) (ha : PA X [a] (tA X.K X.mg W f)) (hs : starEach [a] X.env = [(false, eval a X.env)] := by rfl) : PI X tg (.Call (.Name "range" p) [a] [] pos) (tI X.K X.mg W (iRg1 f)) :=
  (pi_range1 hg hm ha hs).imp fun σ H R ⟨T, F, ρ, sr, h⟩ => ⟨T, F, ρ, sr, (Post.bind h).imp fun vs H1 ⟨ds, F1, ρ1, sr1, rx, h1⟩ => by
    unfold gRg1 at h1
    split at h1
    · rename_i n
      by_cases z : -(2 ^ 62) ≤ n ∧ n < 2 ^ 62
      · rw [if_pos z] at h1
        obtain ⟨v, e, r⟩ := repL1 rx
        refine ⟨n, by rw [e, rep_int.mp r], z.1, z.2, h1.ok_of sr1 ⟨trivial, walkS_rg⟩⟩
      · rw [if_neg z] at h1
        exact h1.elim
    · exact h1.elim⟩
theorem di_rg2 {a b : Expr} {f : EM (List D)} {p pos : Pos} (hg : Gl X "range") (hm : X.mg "range" = none) (ha : PA X [a, b] (tA X.K X.mg W f)) (hs : starEach [a, b] X.env = [(false, eval a X.env), (false, eval b X.env)] := by rfl) (hs2 : starEach [b] X.env = [(false, eval b X.env)] := by rfl) :
    PI X tg (.Call (.Name "range" p) [a, b] [] pos) (tI X.K X.mg W (iRg2 f)) :=
  (pi_range2 hg hm ha hs hs2).imp fun σ H R ⟨T, F, ρ, sr, h⟩ => ⟨T, F, ρ, sr, (Post.bind h).imp fun vs H1 ⟨ds, F1, ρ1, sr1, rx, h1⟩ => by
    unfold gRg2 at h1
    split at h1
    · rename_i m n
      by_cases z : -(2 ^ 62) ≤ m ∧ m < 2 ^ 62 ∧ -(2 ^ 62) ≤ n ∧ n < 2 ^ 62
      · rw [if_pos z] at h1
        obtain ⟨v, u, e, r, r'⟩ := repL2 rx
        refine ⟨m, n, by rw [e, rep_int.mp r, rep_int.mp r'], z, h1.ok_of sr1 ⟨trivial, walkS_rg⟩⟩
      · rw [if_neg z] at h1
        exact h1.elim
    · exact h1.elim⟩
end
end DL

set_option Elab.async false
set_option linter.all false
set_option maxRecDepth 100000
set_option maxHeartbeats 4000000
/-! DR3: comprehensions, loops. -/
namespace DL
open PySem PySem.Spec L2
open PyProof.Rows hiding St
open Classical

def R.bindN {α β : Type} (r : R α) (g : α → EM β) : R β := match r with
  | .ok a ρ => g a ρ
  | _ => .bad
theorem R.bindN_ok {α β : Type} {r : R α} {g : α → EM β} {b : β} {ρ : List Sl} (h : r.bindN g = .ok b ρ) : ∃ a ρ1, r = .ok a ρ1 ∧ g a ρ1 = .ok b ρ := by
  cases r with
  | ok a ρ1 => exact ⟨a, ρ1, rfl, h⟩
  | ex c ns ds ρ1 => cases h
  | bad => cases h
abbrev W0 : WX := fun _ _ _ _ => False

/-- the turns of a comprehension's clause: acc the new list so far; vs the slots that are forgotten behind each turn -/
noncomputable def compD (still : List Sl → Prop) (tg : Tg) (c : EM Bool) (elt : EM D) (vs : List Nat) : List D → List D → EM (List D)
  | [], acc, ρ => if still ρ then .ok acc ρ else .bad
  | d :: ds, acc, ρ => if still ρ then (match setT tg d ρ with
      | none => .bad
      | some ρ1 => (c ρ1).bindN fun b ρ2 => if b = true then (elt ρ2).bindN fun y ρ3 => compD still tg c elt vs ds (acc ++ [y]) (wipeR vs ρ3) else compD still tg c elt vs ds acc (wipeR vs ρ2)) else .bad
theorem compD_still {still : List Sl → Prop} {tg : Tg} {c : EM Bool} {elt : EM D} {vs : List Nat} {ds acc r : List D} {ρ ρ' : List Sl} (h : compD still tg c elt vs ds acc ρ = .ok r ρ') : still ρ := by
  cases ds with
  | nil =>
    unfold compD at h
    by_cases z : still ρ
    · exact z
    · rw [if_neg z] at h
      cases h
  | cons d ds =>
    unfold compD at h
    by_cases z : still ρ
    · exact z
    · rw [if_neg z] at h
      cases h
theorem compD_cons {still : List Sl → Prop} {tg : Tg} {c : EM Bool} {elt : EM D} {vs : List Nat} {d : D} {ds acc r : List D} {ρ ρ' : List Sl} (h : compD still tg c elt vs (d :: ds) acc ρ = .ok r ρ') :
    ∃ ρ1 b ρ2, setT tg d ρ = some ρ1 ∧ c ρ1 = .ok b ρ2 ∧ ((b = true ∧ ∃ y ρ3, elt ρ2 = .ok y ρ3 ∧ compD still tg c elt vs ds (acc ++ [y]) (wipeR vs ρ3) = .ok r ρ') ∨ (b = false ∧ compD still tg c elt vs ds acc (wipeR vs ρ2) = .ok r ρ')) := by
  have hs := compD_still h
  unfold compD at h
  rw [if_pos hs] at h
  cases e : setT tg d ρ with
  | none => rw [e] at h; cases h
  | some ρ1 =>
    rw [e] at h
    obtain ⟨b, ρ2, e1, h⟩ := R.bindN_ok h
    refine ⟨ρ1, b, ρ2, rfl, e1, ?_⟩
    cases b with
    | true =>
      rw [if_pos rfl] at h
      obtain ⟨y, ρ3, e2, h⟩ := R.bindN_ok h
      exact .inl ⟨rfl, y, ρ3, e2, h⟩
    | false =>
      rw [if_neg Bool.false_ne_true] at h
      exact .inr ⟨rfl, h⟩
theorem compD_len {still : List Sl → Prop} {tg : Tg} {c : EM Bool} {elt : EM D} {vs : List Nat} : ∀ {ds acc r : List D} {ρ ρ' : List Sl}, compD still tg c elt vs ds acc ρ = .ok r ρ' → acc.length ≤ r.length
  | [], acc, r, ρ, ρ', h => by
    have hs := compD_still h
    unfold compD at h
    rw [if_pos hs] at h
    cases h
    exact Nat.le_refl _
  | d :: ds, acc, r, ρ, ρ', h => by
    obtain ⟨ρ1, b, ρ2, _, _, h⟩ := compD_cons h
    rcases h with ⟨_, y, ρ3, _, h⟩ | ⟨_, h⟩
    · have := compD_len h
      rw [List.length_append, List.length_singleton] at this
      omega
    · exact compD_len h

section
variable {K : PySem.W.Frag} {mg : Str → Option Value}
/-- the loop: from a state with the new list at Dd guarded -/
theorem comp_loop {J : It} {S : Src} {F0 : Hp} {σ0 σ : St} {vs : List Nat} {tg : Tg} {c : EM Bool} {elt : EM D} {anc : Nat → Addr} {pr F H : Hp} {Dd : Addr} {acc r : List D} {accV : List V} {ρ ρ' : List Sl} {Qd : Hp → Prop}
    (wk : WalkS K mg J S F0 σ0) (hσ : ∀ j, j ∉ vs → σ[j]? = σ0[j]?) (hsl : ∀ i ∈ tg.slots, i ∈ vs) (hr : r.length ≤ LIM)
    (sr : SR K mg ⟨anc, upd pr Dd (.lst accV)⟩ F H (L2.wipe σ vs) ρ) (s0 : Same F0 F) (ra : RepL K mg F acc accV) (hc : compD S.still tg c elt vs S.items acc ρ = .ok r ρ')
    (hd : ∀ F' H' accV', SR K mg ⟨anc, upd pr Dd (.lst accV')⟩ F' H' (L2.wipe σ vs) ρ' → Same F F' → RepL K mg F' r accV' → Qd H') :
    ∃ Wf : Nat → Nat → Hp → Prop, (∃ m, Wf 0 m H) ∧ ∀ i m H, Wf i m H →
      (J.stop i H ∧ Qd H) ∨ (J.go i H ∧ ∃ Nx : Hp → Prop, (∀ H', Nx H' → ∃ m', m' < m ∧ Wf (i + 1) m' H') ∧ ∀ x H', J.yld i H x H' → tgR K tg x (L2.wipe σ vs) H' fun σ2 H2 => L2.wipe σ2 vs = L2.wipe σ vs ∧ tT K mg W0 c σ2 H2 fun b H3 =>
        if b = true then tE K mg W0 elt σ2 H3 fun y H4 => ∃ acc, H4 Dd = some (.lst acc) ∧ acc.length < sizeLine ∧ Nx (upd H4 Dd (.lst (acc ++ [y]))) else Nx H3) := by
  obtain ⟨G, Y, wlk, wG, wY⟩ := wk
  have side : ∀ T F H ρ, SR K mg T F H (L2.wipe σ vs) ρ → S.still ρ → ∀ j ds, S = .sl j ds → (L2.wipe σ vs)[j]? = σ0[j]? := fun T F H ρ sr st j ds e => by
    subst e
    have o : (ρ.getD j .no).own = true := by
      rcases st with q | q <;> rw [q] <;> rfl
    obtain ⟨a, u, e1, _, _⟩ := sr.at_ o
    obtain ⟨h1, h2⟩ := wipe_some e1
    rw [e1, ← h1]
    exact hσ j h2
  refine ⟨fun i m H1 => m = S.items.length - i ∧ i ≤ S.items.length ∧ ∃ acc1 accV1 ρ1 F1, SR K mg ⟨anc, upd pr Dd (.lst accV1)⟩ F1 H1 (L2.wipe σ vs) ρ1 ∧ Same F F1 ∧ RepL K mg F1 acc1 accV1 ∧ compD S.still tg c elt vs (S.items.drop i) acc1 ρ1 = .ok r ρ',
    ⟨S.items.length, by simp, Nat.zero_le _, acc, accV, ρ, F, sr, Same.refl _, ra, by rw [List.drop_zero]; exact hc⟩, ?_⟩
  rintro i m H1 ⟨rfl, hi, acc1, accV1, ρ1, F1, sr1, s1, ra1, hc1⟩
  have st := compD_still hc1
  have gg : G H1 := wG _ F1 H1 _ ρ1 sr1 (s0.trans s1) st (side _ _ _ _ sr1 st)
  by_cases hlt : i < S.items.length
  · refine .inr ⟨wlk.goes i H1 hlt gg, fun H2 => ∃ acc2 accV2 ρ2 F2, SR K mg ⟨anc, upd pr Dd (.lst accV2)⟩ F2 H2 (L2.wipe σ vs) ρ2 ∧ Same F F2 ∧ RepL K mg F2 acc2 accV2 ∧ compD S.still tg c elt vs (S.items.drop (i + 1)) acc2 ρ2 = .ok r ρ',
      fun H2 h2 => ⟨S.items.length - (i + 1), by omega, rfl, hlt, h2⟩, fun x H2 y => ?_⟩
    obtain ⟨F2, d, gr, hd1, rx⟩ := wY _ i F1 H1 _ ρ1 x H2 sr1 (s0.trans s1) st (side _ _ _ _ sr1 st) hlt (wlk.yields i H1 x H2 hlt gg y)
    have ed : S.items.drop i = d :: S.items.drop (i + 1) := by
      rw [List.drop_eq_getElem_cons hlt]
      have : S.items[i] = d := by
        rw [List.getElem?_eq_getElem hlt] at hd1
        exact Option.some.inj hd1
      rw [this]
    rw [ed] at hc1
    obtain ⟨ρa, b, ρb, e1, e2, hb⟩ := compD_cons hc1
    refine tg_ok (sr1.grow gr) rx e1 fun σ' sra ag => ⟨wipe_agree ag hsl, _, F2, ρa, sra, ?_⟩
    rw [e2]
    intro b' F3 H3 s3 srb eb
    subst eb
    rcases hb with ⟨rfl, yd, ρc, e3, hc2⟩ | ⟨rfl, hc2⟩
    · refine iteT ⟨_, F3, ρb, srb, ?_⟩
      rw [e3]
      intro v F4 H4 s4 src rv
      have hD : H4 Dd = some (.lst accV1) := src.pr Dd _ upd_same
      have hl := compD_len hc2
      rw [List.length_append, List.length_singleton] at hl
      refine ⟨accV1, hD, lim_line' (by rw [ra1.length]; omega), acc1 ++ [yd], accV1 ++ [v], wipeR vs ρc, F4, ?_, ((s1.trans gr.f).trans s3).trans s4, ?_, hc2⟩
      · have w1 := src.wipe vs
        rw [wipe_agree ag hsl] at w1
        have w2 := w1.reguard (p := Dd) (o' := .lst (accV1 ++ [v])) upd_same
        have e5 : upd (upd pr Dd (.lst accV1)) Dd (.lst (accV1 ++ [v])) = upd pr Dd (.lst (accV1 ++ [v])) := upd_upd
        rw [← e5]
        exact w2
      · exact RepL.append (ra1.mono ((gr.f.trans s3).trans s4)) (.cons rv .nil)
    · refine iteF ⟨acc1, accV1, wipeR vs ρb, F3, ?_, (s1.trans gr.f).trans s3, ra1.mono (gr.f.trans s3), hc2⟩
      have w1 := srb.wipe vs
      rw [wipe_agree ag hsl] at w1
      exact w1
  · have e : i = S.items.length := by omega
    subst e
    refine .inl ⟨wlk.stops H1 gg, ?_⟩
    rw [List.drop_length] at hc1
    unfold compD at hc1
    rw [if_pos st] at hc1
    cases hc1
    exact hd F1 H1 accV1 sr1 s1 ra1
end
/-- [elt for tg in S if c], a list of one's own -/
noncomputable def oComp (tg : Tg) (c : EM Bool) (elt : EM D) (vs : List Nat) (src : EM Src) : EM (List D) := src.bind fun S ρ => match compD S.still tg c elt vs S.items [] (wipeR vs ρ) with
  | .ok ds ρ' => if ds.length ≤ LIM then .ok ds (unwipe vs ρ ρ') else .bad
  | _ => .bad
section
variable {X : Cx} {W : WX}
theorem comp_go {T : Sit} {F H : Hp} {σ : St} {ρ : List Sl} {tg : Tg} {c : EM Bool} {elt : EM D} {vs : List Nat} {src : EM Src} {Q : VK} (hsl : ∀ i ∈ tg.slots, i ∈ vs) (sr : SR X.K X.mg T F H σ ρ) (h : Post X.K X.mg T W (repO X.K X.mg T) F σ Q (oComp tg c elt vs src ρ)) :
    tLc (tI X.K X.mg W src) (tgR X.K tg) (tT X.K X.mg W0 c) (tE X.K X.mg W0 elt) vs σ H Q := by
  refine ⟨T, F, ρ, sr, (Post.bind h).imp fun J H1 ⟨S, F1, ρ1, sr1, ⟨st, wk⟩, h1⟩ => fun Dd nD => ?_⟩
  cases e : compD S.still tg c elt vs S.items [] (wipeR vs ρ1) with
  | bad => rw [e] at h1; exact h1.elim
  | ex a b d ρ2 => rw [e] at h1; exact h1.elim
  | ok r ρ2 =>
    rw [e] at h1
    have h1 : Post X.K X.mg T W (repO X.K X.mg T) F1 σ Q (if r.length ≤ LIM then .ok r (unwipe vs ρ1 ρ2) else .bad) := h1
    by_cases hl : r.length ≤ LIM
    · rw [if_pos hl] at h1
      have g1 := (sr1.wipe vs).guard (o := .lst []) nD
      refine comp_loop (F0 := F1) (σ0 := σ) wk (fun _ _ => rfl) hsl hl g1 (Same.refl _) RepL.nil e fun F' H' accV' srz s rz => ?_
      obtain ⟨sry, hD, nF, no⟩ := srz.unguard (sr1.pr.free nD)
      refine h1 (.ref Dd) F' H' s (SR.unwipe sr1 sry s) ⟨Dd, accV', rfl, nF, hD, rz, sr1.pr.free nD, fun i o e2 => ?_⟩
      obtain ⟨q1, q2⟩ := unwipe_own o
      exact no i q2 (by rw [wipe_out q1]; exact e2)
    · rw [if_neg hl] at h1
      exact h1.elim
theorem do_lc {elt tg iter : Expr} {ifs : List Expr} {scope : Scope} {own : List (Str × Nat)} {pos : Pos} {g : Tg} {c : EM Bool} {fe : EM D} {src : EM Src} (hc : X.calm = true) (hN : X.N.Nodup) (hi : PI X tg iter (tI X.K X.mg W src)) (ok : BlkOk X.N X.env.scope scope own)
    (hg : ∀ (s : Shared) (H : Hp) (C : Addr) (cl : List (Str × Addr)) (fp : List Addr), PG (X.blk s H scope (compEnvC scope cl C X.env) fp) tg (tgR X.K g)) (ht : ∀ (s : Shared) (H : Hp) (C : Addr) (cl : List (Str × Addr)) (fp : List Addr), PTs (X.blk s H scope (compEnvC scope cl C X.env) fp) ifs (tT X.K X.mg W0 c))
    (he : ∀ (s : Shared) (H : Hp) (C : Addr) (cl : List (Str × Addr)) (fp : List Addr), PE (X.blk s H scope (compEnvC scope cl C X.env) fp) elt (tE X.K X.mg W0 fe)) (hsl : ∀ i ∈ g.slots, i ∈ own.map (·.2)) (hs : ∀ x, foldedSetIterable iter X.env x = pure x := by intro _; rfl) :
    PE X (.ListComp elt [⟨tg, iter, ifs, 0⟩] scope pos) (tO X.K X.mg W (oComp g c fe (own.map (·.2)) src)) :=
  (pe_lc hc hN hi ok hg ht he hs).imp fun σ H Q ⟨T, F, ρ, sr, h⟩ => comp_go hsl sr h
theorem dts_nil {X : Cx} : PTs X [] (tT X.K X.mg W0 (EM.ret true)) := ⟨fun pins s σ H Q I ⟨T, F, ρ, sr, h⟩ => pts_nil.run pins s σ H Q I (h.ok_of sr rfl)⟩
theorem dts_one {X : Cx} {e : Expr} {c : EM Bool} (h : PT X e (tT X.K X.mg W0 c)) : PTs X [e] (tT X.K X.mg W0 c) := pts_one h
end

/-! ### two clauses -/
noncomputable def comp2D (still : List Sl → Prop) (tg : Tg) (c : EM Bool) (src1 : EM Src) (tg1 : Tg) (c1 : EM Bool) (elt : EM D) (vs vs1 : List Nat) : List D → List D → EM (List D)
  | [], acc, ρ => if still ρ then .ok acc ρ else .bad
  | d :: ds, acc, ρ => if still ρ then (match setT tg d ρ with
      | none => .bad
      | some ρ1 => (c ρ1).bindN fun b ρ2 => if b = true then (src1 ρ2).bindN fun S1 ρ3 => (compD S1.still tg1 c1 elt vs1 S1.items acc (wipeR vs1 ρ3)).bindN fun acc' ρ4 => comp2D still tg c src1 tg1 c1 elt vs vs1 ds acc' (wipeR vs ρ4)
        else comp2D still tg c src1 tg1 c1 elt vs vs1 ds acc (wipeR vs ρ2)) else .bad
theorem comp2D_still {still : List Sl → Prop} {tg tg1 : Tg} {c c1 : EM Bool} {src1 : EM Src} {elt : EM D} {vs vs1 : List Nat} {ds acc r : List D} {ρ ρ' : List Sl} (h : comp2D still tg c src1 tg1 c1 elt vs vs1 ds acc ρ = .ok r ρ') : still ρ := by
  cases ds with
  | nil =>
    unfold comp2D at h
    by_cases z : still ρ
    · exact z
    · rw [if_neg z] at h
      cases h
  | cons d ds =>
    unfold comp2D at h
    by_cases z : still ρ
    · exact z
    · rw [if_neg z] at h
      cases h
theorem comp2D_cons {still : List Sl → Prop} {tg tg1 : Tg} {c c1 : EM Bool} {src1 : EM Src} {elt : EM D} {vs vs1 : List Nat} {d : D} {ds acc r : List D} {ρ ρ' : List Sl} (h : comp2D still tg c src1 tg1 c1 elt vs vs1 (d :: ds) acc ρ = .ok r ρ') :
    ∃ ρ1 b ρ2, setT tg d ρ = some ρ1 ∧ c ρ1 = .ok b ρ2 ∧ ((b = true ∧ ∃ S1 ρ3 acc' ρ4, src1 ρ2 = .ok S1 ρ3 ∧ compD S1.still tg1 c1 elt vs1 S1.items acc (wipeR vs1 ρ3) = .ok acc' ρ4 ∧ comp2D still tg c src1 tg1 c1 elt vs vs1 ds acc' (wipeR vs ρ4) = .ok r ρ') ∨
      (b = false ∧ comp2D still tg c src1 tg1 c1 elt vs vs1 ds acc (wipeR vs ρ2) = .ok r ρ')) := by
  have hs := comp2D_still h
  unfold comp2D at h
  rw [if_pos hs] at h
  cases e : setT tg d ρ with
  | none => rw [e] at h; cases h
  | some ρ1 =>
    rw [e] at h
    obtain ⟨b, ρ2, e1, h⟩ := R.bindN_ok h
    refine ⟨ρ1, b, ρ2, rfl, e1, ?_⟩
    cases b with
    | true =>
      rw [if_pos rfl] at h
      obtain ⟨S1, ρ3, e2, h⟩ := R.bindN_ok h
      obtain ⟨acc', ρ4, e3, h⟩ := R.bindN_ok h
      exact .inl ⟨rfl, S1, ρ3, acc', ρ4, e2, e3, h⟩
    | false =>
      rw [if_neg Bool.false_ne_true] at h
      exact .inr ⟨rfl, h⟩
theorem comp2D_len {still : List Sl → Prop} {tg tg1 : Tg} {c c1 : EM Bool} {src1 : EM Src} {elt : EM D} {vs vs1 : List Nat} : ∀ {ds acc r : List D} {ρ ρ' : List Sl}, comp2D still tg c src1 tg1 c1 elt vs vs1 ds acc ρ = .ok r ρ' → acc.length ≤ r.length
  | [], acc, r, ρ, ρ', h => by
    have hs := comp2D_still h
    unfold comp2D at h
    rw [if_pos hs] at h
    cases h
    exact Nat.le_refl _
  | d :: ds, acc, r, ρ, ρ', h => by
    obtain ⟨ρ1, b, ρ2, _, _, h⟩ := comp2D_cons h
    rcases h with ⟨_, S1, ρ3, acc', ρ4, _, h1, h⟩ | ⟨_, h⟩
    · have := comp2D_len h
      have := compD_len h1
      omega
    · exact comp2D_len h
noncomputable def oComp2 (tg : Tg) (c : EM Bool) (src1 : EM Src) (tg1 : Tg) (c1 : EM Bool) (elt : EM D) (vs vs1 : List Nat) (src : EM Src) : EM (List D) := src.bind fun S ρ => match comp2D S.still tg c src1 tg1 c1 elt vs vs1 S.items [] (wipeR vs ρ) with
  | .ok ds ρ' => if ds.length ≤ LIM then .ok ds (unwipe vs ρ ρ') else .bad
  | _ => .bad
theorem wipe_sub {σ : St} {vs vs1 : List Nat} (h : ∀ i ∈ vs1, i ∈ vs) : L2.wipe (L2.wipe σ vs1) vs = L2.wipe σ vs := by
  apply List.ext_getElem?
  intro j
  by_cases z : j ∈ vs
  · rw [wipe_at z, wipe_at z, wipe_length]
  · rw [wipe_out z, wipe_out (fun q => z (h j q)), wipe_out z]
section
variable {X : Cx} {W : WX}
theorem comp2_go {T : Sit} {F H : Hp} {σ : St} {ρ : List Sl} {tg tg1 : Tg} {c c1 : EM Bool} {src1 : EM Src} {elt : EM D} {vs vs1 : List Nat} {src : EM Src} {Q : VK} (hsl : ∀ i ∈ tg.slots, i ∈ vs) (hsl1 : ∀ i ∈ tg1.slots, i ∈ vs1) (hsub : ∀ i ∈ vs1, i ∈ vs) (sr : SR X.K X.mg T F H σ ρ)
    (h : Post X.K X.mg T W (repO X.K X.mg T) F σ Q (oComp2 tg c src1 tg1 c1 elt vs vs1 src ρ)) :
    tLc2 (tI X.K X.mg W src) (tgR X.K tg) (tT X.K X.mg W0 c) (tI X.K X.mg W0 src1) (tgR X.K tg1) (tT X.K X.mg W0 c1) (tE X.K X.mg W0 elt) vs vs1 σ H Q := by
  refine ⟨T, F, ρ, sr, (Post.bind h).imp fun J H1 ⟨S, F1, ρ1, sr1, ⟨st, wk⟩, h1⟩ => fun Dd nD => ?_⟩
  cases e : comp2D S.still tg c src1 tg1 c1 elt vs vs1 S.items [] (wipeR vs ρ1) with
  | bad => rw [e] at h1; exact h1.elim
  | ex a b d ρ2 => rw [e] at h1; exact h1.elim
  | ok r ρ2 =>
    rw [e] at h1
    have h1 : Post X.K X.mg T W (repO X.K X.mg T) F1 σ Q (if r.length ≤ LIM then .ok r (unwipe vs ρ1 ρ2) else .bad) := h1
    by_cases hl : r.length ≤ LIM
    · rw [if_pos hl] at h1
      obtain ⟨G, Y, wlk, wG, wY⟩ := wk
      have side : ∀ T F H ρ, SR X.K X.mg T F H (L2.wipe σ vs) ρ → S.still ρ → ∀ j ds, S = .sl j ds → (L2.wipe σ vs)[j]? = σ[j]? := fun T F H ρ sr st j ds e => by
        subst e
        have o : (ρ.getD j .no).own = true := by
          rcases st with q | q <;> rw [q] <;> rfl
        obtain ⟨a, u, e1, _, _⟩ := sr.at_ o
        obtain ⟨h1, h2⟩ := wipe_some e1
        rw [e1, ← h1]
      have g1 := (sr1.wipe vs).guard (o := .lst []) nD
      refine ⟨fun i m H2 => m = S.items.length - i ∧ i ≤ S.items.length ∧ ∃ acc1 accV1 ρa Fa, SR X.K X.mg ⟨T.anc, upd T.pr Dd (.lst accV1)⟩ Fa H2 (L2.wipe σ vs) ρa ∧ Same F1 Fa ∧ RepL X.K X.mg Fa acc1 accV1 ∧ comp2D S.still tg c src1 tg1 c1 elt vs vs1 (S.items.drop i) acc1 ρa = .ok r ρ2,
        ⟨S.items.length, by simp, Nat.zero_le _, [], [], wipeR vs ρ1, F1, g1, Same.refl _, RepL.nil, by rw [List.drop_zero]; exact e⟩, ?_⟩
      rintro i m H2 ⟨rfl, hi, acc1, accV1, ρa, Fa, sra, sa, ra, hca⟩
      have st2 := comp2D_still hca
      have gg : G H2 := wG _ Fa H2 _ ρa sra sa st2 (side _ _ _ _ sra st2)
      by_cases hlt : i < S.items.length
      · refine .inr ⟨wlk.goes i H2 hlt gg, fun H3 => ∃ acc2 accV2 ρb Fb, SR X.K X.mg ⟨T.anc, upd T.pr Dd (.lst accV2)⟩ Fb H3 (L2.wipe σ vs) ρb ∧ Same F1 Fb ∧ RepL X.K X.mg Fb acc2 accV2 ∧ comp2D S.still tg c src1 tg1 c1 elt vs vs1 (S.items.drop (i + 1)) acc2 ρb = .ok r ρ2,
          fun H3 h3 => ⟨S.items.length - (i + 1), by omega, rfl, hlt, h3⟩, fun x H3 y => ?_⟩
        obtain ⟨Fb, d, gr, hd1, rx⟩ := wY _ i Fa H2 _ ρa x H3 sra sa st2 (side _ _ _ _ sra st2) hlt (wlk.yields i H2 x H3 hlt gg y)
        have ed : S.items.drop i = d :: S.items.drop (i + 1) := by
          rw [List.drop_eq_getElem_cons hlt]
          have : S.items[i] = d := by
            rw [List.getElem?_eq_getElem hlt] at hd1
            exact Option.some.inj hd1
          rw [this]
        rw [ed] at hca
        obtain ⟨ρb, b, ρc, e1, e2, hb⟩ := comp2D_cons hca
        refine tg_ok (sra.grow gr) rx e1 fun σ' srb ag => ⟨wipe_agree ag hsl, _, Fb, ρb, srb, ?_⟩
        rw [e2]
        intro b' Fc H4 sc src' eb
        subst eb
        rcases hb with ⟨rfl, S1, ρd, acc', ρe, e3, e4, hc2⟩ | ⟨rfl, hc2⟩
        · refine iteT ⟨_, Fc, ρc, src', ?_⟩
          rw [e3]
          rintro J1 Fd H5 sd srd ⟨st1, wk1⟩
          have hl2 := comp2D_len hc2
          refine comp_loop (F0 := Fd) (σ0 := σ') wk1 (fun _ _ => rfl) hsl1 (by omega) (srd.wipe vs1) (Same.refl _) (ra.mono ((gr.f.trans sc).trans sd)) e4 fun F' H' accV' srz sz rz => ?_
          refine ⟨acc', accV', wipeR vs ρe, F', ?_, (((sa.trans gr.f).trans sc).trans sd).trans sz, rz, hc2⟩
          have w1 := srz.wipe vs
          rw [wipe_sub hsub, wipe_agree ag hsl] at w1
          exact w1
        · refine iteF ⟨acc1, accV1, wipeR vs ρc, Fc, ?_, (sa.trans gr.f).trans sc, ra.mono (gr.f.trans sc), hc2⟩
          have w1 := src'.wipe vs
          rw [wipe_agree ag hsl] at w1
          exact w1
      · have ei : i = S.items.length := by omega
        subst ei
        refine .inl ⟨wlk.stops H2 gg, ?_⟩
        rw [List.drop_length] at hca
        unfold comp2D at hca
        rw [if_pos st2] at hca
        cases hca
        obtain ⟨sry, hD, nF, no⟩ := sra.unguard (sr1.pr.free nD)
        refine h1 (.ref Dd) Fa H2 sa (SR.unwipe sr1 sry sa) ⟨Dd, accV1, rfl, nF, hD, ra, sr1.pr.free nD, fun i o e2 => ?_⟩
        obtain ⟨q1, q2⟩ := unwipe_own o
        exact no i q2 (by rw [wipe_out q1]; exact e2)
    · rw [if_neg hl] at h1
      exact h1.elim
theorem do_lc2 {elt tg iter tg1 iter1 : Expr} {ifs ifs1 : List Expr} {scope : Scope} {own : List (Str × Nat)} {vs1 : List Nat} {pos : Pos} {g g1 : Tg} {c c1 : EM Bool} {fe : EM D} {src src1 : EM Src} (hc : X.calm = true) (hN : X.N.Nodup) (hi : PI X tg iter (tI X.K X.mg W src)) (ok : BlkOk X.N X.env.scope scope own) (hv : ∀ i ∈ vs1, i ∈ own.map (·.2))
    (hg : ∀ (s : Shared) (H : Hp) (C : Addr) (cl : List (Str × Addr)) (fp : List Addr), PG (X.blk s H scope (compEnvC scope cl C X.env) fp) tg (tgR X.K g)) (ht : ∀ (s : Shared) (H : Hp) (C : Addr) (cl : List (Str × Addr)) (fp : List Addr), PTs (X.blk s H scope (compEnvC scope cl C X.env) fp) ifs (tT X.K X.mg W0 c))
    (hi1 : ∀ (s : Shared) (H : Hp) (C : Addr) (cl : List (Str × Addr)) (fp : List Addr), PI (X.blk s H scope (compEnvC scope cl C X.env) fp) tg1 iter1 (tI X.K X.mg W0 src1))
    (hg1 : ∀ (s : Shared) (H : Hp) (C : Addr) (cl : List (Str × Addr)) (fp : List Addr), PG (X.blk s H scope (compEnvC scope cl C X.env) fp) tg1 (tgR X.K g1)) (ht1 : ∀ (s : Shared) (H : Hp) (C : Addr) (cl : List (Str × Addr)) (fp : List Addr), PTs (X.blk s H scope (compEnvC scope cl C X.env) fp) ifs1 (tT X.K X.mg W0 c1))
    (he : ∀ (s : Shared) (H : Hp) (C : Addr) (cl : List (Str × Addr)) (fp : List Addr), PE (X.blk s H scope (compEnvC scope cl C X.env) fp) elt (tE X.K X.mg W0 fe)) (hsl : ∀ i ∈ g.slots, i ∈ own.map (·.2)) (hsl1 : ∀ i ∈ g1.slots, i ∈ vs1)
    (hs : ∀ x, foldedSetIterable iter X.env x = pure x := by intro _; rfl) (hs1 : ∀ env x, foldedSetIterable iter1 env x = pure x := by intro _ _; rfl) :
    PE X (.ListComp elt [⟨tg, iter, ifs, 0⟩, ⟨tg1, iter1, ifs1, 0⟩] scope pos) (tO X.K X.mg W (oComp2 g c src1 g1 c1 fe (own.map (·.2)) vs1 src)) :=
  (pe_lc2 hc hN hi ok hv hg ht hi1 hg1 ht1 he hs hs1).imp fun σ H Q ⟨T, F, ρ, sr, h⟩ => comp2_go hsl hsl1 hv sr h
end
end DL

set_option Elab.async false
set_option linter.all false
set_option maxRecDepth 100000
set_option maxHeartbeats 4000000
/-! DR4: statements, defs, calls. -/
namespace DL
open PySem PySem.Spec L2
open PyProof.Rows hiding St
open Classical

/-! ### statements -/
def sNil : EM Fl := EM.ret .nx
def sSeq (f g : EM Fl) : EM Fl := fun ρ => match f ρ with
  | .ok .nx ρ' => g ρ'
  | r => r
def sBad : EM Fl := fun _ => .bad
def sAsg (i : Nat) (f : EM D) : EM Fl := f.bind fun d ρ => .ok .nx (ρ.set i (.fz d))
def sAsgO (i : Nat) (f : EM (List D)) : EM Fl := f.bind fun ds ρ => .ok .nx (ρ.set i (.ow ds))
def sAsgT (g : Tg) (f : EM D) : EM Fl := f.bind fun d ρ => match setT g d ρ with
  | some ρ' => .ok .nx ρ'
  | none => .bad
def sDrop (f : EM D) : EM Fl := f.bind fun _ => EM.ret .nx
def sIf (c : EM Bool) (a b : EM Fl) : EM Fl := c.bind fun t => if t = true then a else b
def sRet (f : EM D) : EM Fl := f.bind fun d => EM.ret (.rt d)
def sRetN : EM Fl := EM.ret (.rt .non)
/-- a list that is one's own, or lent -/
def ownL : Sl → Option (List D)
  | .ow xs => some xs
  | .io xs => some xs
  | _ => none
def reL : Sl → List D → Sl
  | .io _, ys => .io ys
  | _, ys => .ow ys
def sApp (j : Nat) (f : EM (List D)) : EM Fl := fun ρ => match ownL (ρ.getD j .no) with
  | none => .bad
  | some _ => (f ρ).bind fun ds ρ' => match ds, ownL (ρ'.getD j .no) with
    | [d], some xs => if xs.length < LIM then .ok .nx (ρ'.set j (reL (ρ'.getD j .no) (xs ++ [d]))) else .bad
    | _, _ => .bad
def sIns (j : Nat) (f : EM (List D)) : EM Fl := fun ρ => match ownL (ρ.getD j .no) with
  | none => .bad
  | some _ => (f ρ).bind fun ds ρ' => match ds, ownL (ρ'.getD j .no) with
    | [.int i, d], some xs => if xs.length < LIM ∧ 0 ≤ i ∧ i < 2 ^ 63 then .ok .nx (ρ'.set j (reL (ρ'.getD j .no) (xs.take i.toNat ++ [d] ++ xs.drop i.toNat))) else .bad
    | _, _ => .bad
def sSetIx (j : Nat) (fi fv : EM D) : EM Fl := fv.bind fun d ρ => match ownL (ρ.getD j .no) with
  | none => .bad
  | some _ => (fi ρ).bind fun i ρ' => match i, ownL (ρ'.getD j .no) with
    | .int k, some xs => (match ixN xs.length k with
      | some n => .ok .nx (ρ'.set j (reL (ρ'.getD j .no) (xs.set n d)))
      | none => .bad)
    | _, _ => .bad
def fldN : List Str → List D → Str → Option D
  | n :: ns, d :: ds, f => if f == n then some d else fldN ns ds f
  | _, _, _ => none
def putNs (f : Str) : List Str → List Str
  | [] => [f]
  | n :: ns => if n = f then n :: ns else n :: putNs f ns
def putDs (f : Str) (d : D) : List Str → List D → List D
  | n :: ns, e :: es => if n = f then d :: es else e :: putDs f d ns es
  | _, es => es ++ [d]
def sPut (j : Nat) (c f : Str) (fv : EM D) : EM Fl := fv.bind fun d ρ => match ρ.getD j .no with
  | .oi c' ns ds => if c' = c ∧ ns.length < 1000 then .ok .nx (ρ.set j (.oi c (putNs f ns) (putDs f d ns ds))) else .bad
  | _ => .bad

section
variable {K : PySem.W.Frag} {mg : Str → Option Value} {T : Sit} {F H : Hp} {σ : St} {ρ : List Sl}
theorem SR.storeOw (h : SR K mg T F H σ ρ) (i : Nat) {v : V} {ds : List D} (r : repO K mg T F H σ ρ ds v) : SR K mg T F H (σ.set i (some v)) (ρ.set i (.ow ds)) := by
  obtain ⟨a, vs, e, n, q, r, p, no⟩ := r
  subst e
  refine h.store i ⟨a, vs, rfl, n, q, r⟩ fun _ b eb => ?_
  cases eb
  exact ⟨p, no⟩
theorem ownL_some {x : Sl} {xs : List D} (h : ownL x = some xs) : x.own = true := by
  cases x <;> first | rfl | cases h
/-- one's own list, where it stands -/
theorem SR.lst_at (h : SR K mg T F H σ ρ) {j : Nat} {xs : List D} (e : ownL (ρ.getD j .no) = some xs) : ∃ a vs, σ[j]? = some (some (.ref a)) ∧ F a = none ∧ H a = some (.lst vs) ∧ RepL K mg F xs vs := by
  have w := h.sl j
  cases z : ρ.getD j .no with
  | ow ys =>
    rw [z] at w e
    cases e
    obtain ⟨a, vs, e1, n, q, r⟩ := w
    exact ⟨a, vs, e1, n, q, r⟩
  | io ys =>
    rw [z] at w e
    cases e
    obtain ⟨e1, n, vs, q, r⟩ := w
    exact ⟨_, vs, e1, n, q, r⟩
  | _ => rw [z] at e; cases e
/-- .. rewritten -/
theorem SR.relst (h : SR K mg T F H σ ρ) {j : Nat} {xs ys : List D} {a : Addr} {ws : List V} (e : ownL (ρ.getD j .no) = some xs) (ea : σ[j]? = some (some (.ref a))) (r : RepL K mg F ys ws) :
    SR K mg T F (upd H a (.lst ws)) σ (ρ.set j (reL (ρ.getD j .no) ys)) := by
  have oj := ownL_some e
  obtain ⟨b, u, e1, n, q⟩ := h.at_ oj
  rw [ea] at e1
  cases e1
  refine h.write oj ea ?_
  cases z : ρ.getD j .no with
  | ow zs => exact ⟨a, ws, ea, n, upd_same, r⟩
  | io zs =>
    have w := h.sl j
    rw [z] at w
    obtain ⟨e2, _⟩ := w
    rw [ea] at e2
    have eq : a = T.anc j := by injection e2 with e2; injection e2 with e2; injection e2
    subst eq
    exact ⟨ea, n, ws, upd_same, r⟩
  | _ => rw [z] at e; cases e
end
section
variable {X : Cx} {W : WX} {st : Stmt} {rest : List Stmt} {f g : EM Fl} {pos : Pos}
theorem dss_nil : PSs X [] (tS X.K X.mg W sNil) := pss_nil.imp fun D σ H ⟨T, F, ρ, sr, h⟩ => h σ F H (Same.refl _) sr
theorem dss_cons (h1 : PS X st (tS X.K X.mg W f)) (h2 : PSs X rest (tS X.K X.mg W g)) : PSs X (st :: rest) (tS X.K X.mg W (sSeq f g)) :=
  (pss_cons h1 h2).imp fun D σ H ⟨T, F, ρ, sr, h⟩ => by
    refine ⟨T, F, ρ, sr, ?_⟩
    unfold sSeq at h
    cases z : f ρ with
    | bad => rw [z] at h; exact h.elim
    | ex c ns ds ρ' => rw [z] at h; exact h
    | ok a ρ' =>
      rw [z] at h
      cases a with
      | nx => exact fun σ' F' H' s sr' => ⟨T, F', ρ', sr', PostS.mono s h⟩
      | rt d => exact h
      | bk => exact h
      | ct => exact h
theorem dss_one (h1 : PS X st (tS X.K X.mg W f)) : PSs X [st] (tS X.K X.mg W f) := pss_one h1
theorem ds_pass : PS X (.Pass pos) (tS X.K X.mg W sNil) := ps_pass.imp fun D σ H ⟨T, F, ρ, sr, h⟩ => h σ F H (Same.refl _) sr
theorem ds_break : PS X (.Break pos) (tS X.K X.mg W (EM.ret .bk)) := ps_break.imp fun D σ H ⟨T, F, ρ, sr, h⟩ => h σ F H (Same.refl _) sr
theorem ds_continue : PS X (.Continue pos) (tS X.K X.mg W (EM.ret .ct)) := ps_continue.imp fun D σ H ⟨T, F, ρ, sr, h⟩ => h σ F H (Same.refl _) sr
theorem ds_bad : PS X st (tS X.K X.mg W sBad) := ⟨fun pins s σ H D I ⟨T, F, ρ, sr, h⟩ => h.elim⟩
theorem dss_bad {sts : List Stmt} : PSs X sts (tS X.K X.mg W sBad) := ⟨fun pins s σ H D I ⟨T, F, ρ, sr, h⟩ => h.elim⟩
theorem asg_go {i : Nat} {fe : EM D} (D : Ends) (σ : St) (H : Hp) (h : tS X.K X.mg W (sAsg i fe) D σ H) : tAsg (tE X.K X.mg W fe) (gName i) D σ H := by
  obtain ⟨T, F, ρ, sr, h⟩ := h
  refine ⟨T, F, ρ, sr, (PostS.bind h).imp fun v H1 ⟨d, F1, ρ1, s, sr1, r, h1⟩ => ?_⟩
  exact h1 _ F1 H1 (Same.refl _) (sr1.storeFz i r)
theorem asgO_go {i : Nat} {fe : EM (List D)} {T : Sit} {F : Hp} {σ : St} {ρ : List Sl} {D : Ends} (h : PostS X.K X.mg T W F D (sAsgO i fe ρ)) : Post X.K X.mg T W (repO X.K X.mg T) F σ (fun v H1 => D.nx (σ.set i (some v)) H1) (fe ρ) :=
  (PostS.bind h).imp fun v H1 ⟨d, F1, ρ1, s, sr1, r, h1⟩ => h1 _ F1 H1 (Same.refl _) (sr1.storeOw i r)
theorem ds_set {i : Nat} {x : Str} {e : Expr} {fe : EM D} {pos' : Pos} (hN : X.N.Nodup) (hi : X.N[i]? = some x) (hx : Loc X.env.scope x) (he : PE X e (tE X.K X.mg W fe)) (hs : swapsWith e (some (.Name x pos')) pos.line X.env = pure false := by rfl) (hf : X.fn x = true ∨ X.env.scope.names.lookup x = some .local := by first | exact .inl rfl | exact .inr rfl | assumption) :
    PS X (.Assign [.Name x pos'] e pos) (tS X.K X.mg W (sAsg i fe)) := (ps_set hN hi hx he hs hf).imp asg_go
theorem ds_setO {i : Nat} {x : Str} {e : Expr} {fe : EM (List D)} {pos' : Pos} (hN : X.N.Nodup) (hi : X.N[i]? = some x) (hx : Loc X.env.scope x) (he : PE X e (tO X.K X.mg W fe)) (hs : swapsWith e (some (.Name x pos')) pos.line X.env = pure false := by rfl) (hf : X.fn x = true ∨ X.env.scope.names.lookup x = some .local := by first | exact .inl rfl | exact .inr rfl | assumption) :
    PS X (.Assign [.Name x pos'] e pos) (tS X.K X.mg W (sAsgO i fe)) := (ps_set hN hi hx he hs hf).imp fun D σ H ⟨T, F, ρ, sr, h⟩ => ⟨T, F, ρ, sr, asgO_go h⟩
theorem ds_setT {tg e : Expr} {fe : EM D} {gt : Tg} (he : PE X e (tE X.K X.mg W fe)) (hg : PG X tg (tgR X.K gt)) (hs : swapsWithSole [tg] e pos.line X.env = pure false := by rfl) (hw : swappedStores [tg] e X.env = pure none := by rfl)
    (h1 : (assignEach [tg] X.env).map (·.2) = [assign tg X.env] := by rfl) : PS X (.Assign [tg] e pos) (tS X.K X.mg W (sAsgT gt fe)) :=
  (ps_asg he hg hs hw h1).imp fun D σ H ⟨T, F, ρ, sr, h⟩ => ⟨T, F, ρ, sr, (PostS.bind h).imp fun v H1 ⟨d, F1, ρ1, s, sr1, r, h1⟩ => by
    cases z : setT gt d ρ1 with
    | none => rw [z] at h1; exact h1.elim
    | some ρ' =>
      rw [z] at h1
      exact tg_ok sr1 r z fun σ' sr' _ => h1 σ' F1 H1 (Same.refl _) sr'⟩
theorem ds_drop {e : Expr} {fe : EM D} (he : PE X e (tE X.K X.mg W fe)) (hs : swapsWith e none pos.line X.env = pure false := by rfl) : PS X (.Expr e pos) (tS X.K X.mg W (sDrop fe)) :=
  (ps_expr he hs).imp fun D σ H ⟨T, F, ρ, sr, h⟩ => ⟨T, F, ρ, sr, (PostS.bind h).imp fun v H1 ⟨d, F1, ρ1, s, sr1, r, h1⟩ => h1 σ F1 H1 (Same.refl _) sr1⟩
theorem ds_if {c : Expr} {a b : List Stmt} {tc : EM Bool} (hc : PT X c (tT X.K X.mg W tc)) (ha : PSs X a (tS X.K X.mg W f)) (hb : PSs X b (tS X.K X.mg W g)) : PS X (.If c a b pos) (tS X.K X.mg W (sIf tc f g)) :=
  (ps_if hc ha hb).imp fun D σ H ⟨T, F, ρ, sr, h⟩ => ⟨T, F, ρ, sr, (PostS.bind h).imp fun v H1 ⟨d, F1, ρ1, s, sr1, r, h1⟩ => by
    subst r
    cases d with
    | true => exact iteT ⟨T, F1, ρ1, sr1, h1⟩
    | false => exact iteF ⟨T, F1, ρ1, sr1, h1⟩⟩
theorem ds_ret {e : Expr} {fe : EM D} (he : PE X e (tE X.K X.mg W fe)) : PS X (.Return (some e) pos) (tS X.K X.mg W (sRet fe)) :=
  (ps_ret he).imp fun D σ H ⟨T, F, ρ, sr, h⟩ => ⟨T, F, ρ, sr, (PostS.bind h).imp fun v H1 ⟨d, F1, ρ1, s, sr1, r, h1⟩ => h1 σ v F1 H1 (Same.refl _) sr1 r⟩
theorem ds_retN : PS X (.Return none pos) (tS X.K X.mg W sRetN) := ps_retN.imp fun D σ H ⟨T, F, ρ, sr, h⟩ => h σ .non F H (Same.refl _) sr (rep_non.mpr rfl)
/-- xs.append(e) -/
theorem ds_app {o e : Expr} {fa : EM (List D)} {apos cpos : Pos} (j : Nat) (ho : PE X o (tVar j)) (ha : PA X [e] (tA X.K X.mg W fa))
    (hbase : attributeBase o "append" X.env (eval o X.env) = eval o X.env := by rfl)
    (hfew : ((backTo cpos (starEach [e] X.env)).all (fun x => !x.1) && (backToKw cpos (keywordEach [] X.env)).all (fun x => x.1.isSome)
      && decide ([e].length + ([] : List Keyword).length + (if ([] : List Keyword).isEmpty then 0 else 1) < 30)) = true := by rfl)
    (hline : (apos.endLine == cpos.line) = true := by rfl) (hst : starEach [e] X.env = (false, eval e X.env) :: starEach [] X.env := by rfl) (hplain : (backTo cpos (starEach [] X.env)).any (·.1) = false := by rfl)
    (hs : swapsWith (.Call (.Attribute o "append" apos) [e] [] cpos) none pos.line X.env = pure false := by rfl) :
    PS X (.Expr (.Call (.Attribute o "append" apos) [e] [] cpos) pos) (tS X.K X.mg W (sApp j fa)) :=
  (ps_expr (pe_bm PySem.F.plainAttrs_list PySem.F.slot_list_append PySem.F.type_list_append mt_append ho ha hbase hfew hline hst hplain) hs).imp fun D σ H ⟨T, F, ρ, sr, h⟩ => by
    unfold sApp at h
    cases z : ownL (ρ.getD j .no) with
    | none => rw [z] at h; exact h.elim
    | some xs0 =>
      rw [z] at h
      obtain ⟨a, vs0, ea, _, q0, _⟩ := sr.lst_at z
      refine ⟨.ref a, ea, .inl ⟨rfl, vs0, SqL.of q0⟩, T, F, ρ, sr, (PostS.bind h).imp fun vs H1 ⟨ds, F1, ρ1, s, sr1, r, h1⟩ => ?_⟩
      cases z1 : ownL (ρ1.getD j .no) with
      | none =>
        rw [z1] at h1
        match ds, h1 with
        | [], h1 => exact h1.elim
        | [d], h1 => exact h1.elim
        | _ :: _ :: _, h1 => exact h1.elim
      | some xs =>
        rw [z1] at h1
        match ds, h1, r with
        | [], h1, _ => exact h1.elim
        | _ :: _ :: _, h1, _ => exact h1.elim
        | [d], h1, r =>
          have h1 : PostS X.K X.mg T W F1 D (if xs.length < LIM then .ok .nx (ρ1.set j (reL (ρ1.getD j .no) (xs ++ [d]))) else .bad) := h1
          by_cases hl : xs.length < LIM
          · rw [if_pos hl] at h1
            obtain ⟨v, ev, rv⟩ := repL1 r
            obtain ⟨b, ws, eb, n, q, rx⟩ := sr1.lst_at z1
            rw [ea] at eb
            cases eb
            refine ⟨a, ws, v, rfl, ev, q, lim_line' (by rw [rx.length]; exact hl), ?_⟩
            exact h1 σ F1 _ (Same.refl _) (sr1.relst z1 ea (rx.append (.cons rv .nil)))
          · rw [if_neg hl] at h1
            exact h1.elim
/-- xs.insert(i, e) -/
theorem ds_ins {o e1 e2 : Expr} {fa : EM (List D)} {apos cpos : Pos} (j : Nat) (ho : PE X o (tVar j)) (ha : PA X [e1, e2] (tA X.K X.mg W fa))
    (hbase : attributeBase o "insert" X.env (eval o X.env) = eval o X.env := by rfl)
    (hfew : ((backTo cpos (starEach [e1, e2] X.env)).all (fun x => !x.1) && (backToKw cpos (keywordEach [] X.env)).all (fun x => x.1.isSome)
      && decide ([e1, e2].length + ([] : List Keyword).length + (if ([] : List Keyword).isEmpty then 0 else 1) < 30)) = true := by rfl)
    (hline : (apos.endLine == cpos.line) = true := by rfl) (hst : starEach [e1, e2] X.env = (false, eval e1 X.env) :: starEach [e2] X.env := by rfl) (hplain : (backTo cpos (starEach [e2] X.env)).any (·.1) = false := by rfl)
    (hs : swapsWith (.Call (.Attribute o "insert" apos) [e1, e2] [] cpos) none pos.line X.env = pure false := by rfl) :
    PS X (.Expr (.Call (.Attribute o "insert" apos) [e1, e2] [] cpos) pos) (tS X.K X.mg W (sIns j fa)) :=
  (ps_expr (pe_bm PySem.F.plainAttrs_list PySem.F.slot_list_insert PySem.F.type_list_insert mt_insert ho ha hbase hfew hline hst hplain) hs).imp fun D σ H ⟨T, F, ρ, sr, h⟩ => by
    unfold sIns at h
    cases z : ownL (ρ.getD j .no) with
    | none => rw [z] at h; exact h.elim
    | some xs0 =>
      rw [z] at h
      obtain ⟨a, vs0, ea, _, q0, _⟩ := sr.lst_at z
      refine ⟨.ref a, ea, .inl ⟨rfl, vs0, SqL.of q0⟩, T, F, ρ, sr, (PostS.bind h).imp fun vs H1 ⟨ds, F1, ρ1, s, sr1, r, h1⟩ => ?_⟩
      split at h1
      · rename_i i d xs z1
        by_cases hl : xs.length < LIM ∧ 0 ≤ i ∧ i < 2 ^ 63
        · rw [if_pos hl] at h1
          obtain ⟨v, u, ev, rv, ru⟩ := repL2 r
          obtain ⟨b, ws, eb, n, q, rx⟩ := sr1.lst_at z1
          rw [ea] at eb
          cases eb
          refine ⟨a, ws, i, u, rfl, by rw [ev, rep_int.mp rv], q, lim_line' (by rw [rx.length]; exact hl.1), hl.2.1, hl.2.2, ?_⟩
          exact h1 σ F1 _ (Same.refl _) (sr1.relst z1 ea (((rx.take i.toNat).append (.cons ru .nil)).append (rx.drop i.toNat)))
        · rw [if_neg hl] at h1
          exact h1.elim
      · exact h1.elim
/-- xs[i] = e -/
theorem ds_setIx {o i e : Expr} {fi fv : EM D} {spos : Pos} (j : Nat) (ho : PE X o (tVar j)) (hi : PE X i (tE X.K X.mg W fi)) (he : PE X e (tE X.K X.mg W fv)) (hg : PG X (.Subscript o i spos) (gSub (tVar j) (tE X.K X.mg W fi) rSetL))
    (hs : swapsWithSole [.Subscript o i spos] e pos.line X.env = pure false := by rfl) (hw : swappedStores [.Subscript o i spos] e X.env = pure none := by rfl)
    (h1 : (assignEach [.Subscript o i spos] X.env).map (·.2) = [assign (.Subscript o i spos) X.env] := by rfl) : PS X (.Assign [.Subscript o i spos] e pos) (tS X.K X.mg W (sSetIx j fi fv)) :=
  (ps_asg he hg hs hw h1).imp fun D σ H ⟨T, F, ρ, sr, h⟩ => ⟨T, F, ρ, sr, (PostS.bind h).imp fun v H1 ⟨d, F1, ρ1, s, sr1, r, h1⟩ => by
    cases z : ownL (ρ1.getD j .no) with
    | none => rw [z] at h1; exact h1.elim
    | some xs0 =>
      rw [z] at h1
      obtain ⟨a, vs0, ea, _, q0, _⟩ := sr1.lst_at z
      refine ⟨.ref a, ea, T, F1, ρ1, sr1, (PostS.bind h1).imp fun iv H2 ⟨id, F2, ρ2, s2, sr2, ri, h2⟩ => ?_⟩
      split at h2
      · rename_i k xs z1
        cases zn : ixN xs.length k with
        | none => rw [zn] at h2; exact h2.elim
        | some n =>
          rw [zn] at h2
          obtain ⟨b, ws, eb, _, q, rx⟩ := sr2.lst_at z1
          rw [ea] at eb
          cases eb
          refine ⟨a, ws, k, n, rfl, rep_int.mp ri, q, by rw [rx.length]; exact zn, ?_⟩
          exact h2 σ F2 _ (Same.refl _) (sr2.relst z1 ea (RepL.set n (Rep.mono s2 r) rx))
      · exact h2.elim⟩
end

/-! ### loops -/
def stepF (r : R Fl) (k : EM Fl) : R Fl := match r with
  | .ok .nx ρ => k ρ
  | .ok .ct ρ => k ρ
  | .ok .bk ρ => .ok .nx ρ
  | r => r
def forD (tg : Tg) (body : EM Fl) : List D → EM Fl
  | [], ρ => .ok .nx ρ
  | d :: ds, ρ => match setT tg d ρ with
    | none => .bad
    | some ρ1 => stepF (body ρ1) (forD tg body ds)
def noSl : Src → Prop
  | .sl _ _ => False
  | _ => True
noncomputable def sFor (tg : Tg) (src : EM Src) (body : EM Fl) : EM Fl := src.bind fun S => if noSl S then forD tg body S.items else fun _ => .bad
def whileD (c : EM Bool) (body : EM Fl) : Nat → EM Fl
  | 0, _ => .bad
  | n + 1, ρ => (c ρ).bind fun b ρ1 => if b = true then stepF (body ρ1) (whileD c body n) else .ok .nx ρ1
section
variable {X : Cx} {W : WX} {body : List Stmt} {f : EM Fl} {pos : Pos}
theorem ds_for {iter tg : Expr} {g : Tg} {src : EM Src} (hp : PassesOwn (model X.prog X.w) X.A X.env X.xe) (hc : X.calm = true) (hi : PI X tg iter (tI X.K X.mg W src)) (hg : PG X tg (tgR X.K g)) (hb : PSs X body (tS X.K X.mg W f))
    (hs : ∀ x, foldedSetIterable iter X.env x = pure x := by intro _; rfl) : PS X (.For tg iter body [] pos) (tS X.K X.mg W (sFor g src f)) :=
  (ps_for hp hc hi hg hb hs).imp fun D σ H ⟨T, F, ρ, sr, h⟩ => by
    refine ⟨T, F, ρ, sr, (PostS.bind h).imp fun J H1 ⟨S, F1, ρ1, s, sr1, ⟨st, G, Y, wlk, wG, wY⟩, h1⟩ => ?_⟩
    by_cases z : noSl S
    · rw [if_pos z] at h1
      have still : ∀ ρ, S.still ρ := fun ρ => by
        cases S <;> first | trivial | exact z.elim
      have side : ∀ (σ' : St) j ds, S = .sl j ds → σ'[j]? = σ[j]? := fun σ' j ds e => by
        subst e
        exact z.elim
      refine for_it wlk (fun i σ' H' => ∃ F' ρ', SR X.K X.mg T F' H' σ' ρ' ∧ Same F1 F' ∧ PostS X.K X.mg T W F' D (forD g f (S.items.drop i) ρ')) ⟨F1, ρ1, sr1, Same.refl _, by rw [List.drop_zero]; exact h1⟩
        (fun i σ' H' _ ⟨F', ρ', sr', s', _⟩ => wG T F' H' σ' ρ' sr' s' (still _) (side _)) (fun i x σ' H' H'' hi ⟨F', ρ', sr', s', h'⟩ y => ?_) (fun σ' H' ⟨F', ρ', sr', s', h'⟩ => ?_)
      · obtain ⟨F2, d, gr, hd, rx⟩ := wY T i F' H' σ' ρ' x H'' sr' s' (still _) (side _) hi y
        have ed : S.items.drop i = d :: S.items.drop (i + 1) := by
          rw [List.drop_eq_getElem_cons hi]
          have : S.items[i] = d := by
            rw [List.getElem?_eq_getElem hi] at hd
            exact Option.some.inj hd
          rw [this]
        rw [ed] at h'
        unfold forD at h'
        cases e1 : setT g d ρ' with
        | none => rw [e1] at h'; exact h'.elim
        | some ρa =>
          rw [e1] at h'
          refine tg_ok (sr'.grow gr) rx e1 fun σ2 sra _ => ⟨T, F2, ρa, sra, ?_⟩
          have h' : PostS X.K X.mg T W F2 D (stepF (f ρa) (forD g f (S.items.drop (i + 1)))) := PostS.mono gr.f h'
          cases e2 : f ρa with
          | bad => rw [e2] at h'; exact h'.elim
          | ex c ns ds ρb => rw [e2] at h'; exact h'
          | ok a ρb =>
            rw [e2] at h'
            cases a with
            | nx => exact fun σ3 F3 H3 s3 sr3 => ⟨F3, ρb, sr3, (s'.trans gr.f).trans s3, PostS.mono s3 h'⟩
            | ct => exact fun σ3 F3 H3 s3 sr3 => ⟨F3, ρb, sr3, (s'.trans gr.f).trans s3, PostS.mono s3 h'⟩
            | bk => exact h'
            | rt d => exact h'
      · rw [List.drop_length] at h'
        unfold forD at h'
        exact h' σ' F' H' (Same.refl _) sr'
    · rw [if_neg z] at h1
      exact h1.elim
theorem ds_while {c : Expr} {tc : EM Bool} (n : Nat) (hp : PassesOwn (model X.prog X.w) X.A X.env X.xe) (hc : PT X c (tT X.K X.mg W tc)) (hb : PSs X body (tS X.K X.mg W f)) : PS X (.While c body [] pos) (tS X.K X.mg W (whileD tc f n)) :=
  (ps_while hp hc hb).imp fun D σ H ⟨T, F, ρ, sr, h⟩ => by
    refine ⟨fun m σ' H' => ∃ F' ρ', SR X.K X.mg T F' H' σ' ρ' ∧ Same F F' ∧ PostS X.K X.mg T W F' D (whileD tc f m ρ'), ⟨n, F, ρ, sr, Same.refl _, h⟩, fun m σ' H' ⟨F', ρ', sr', s', h'⟩ => ?_⟩
    cases m with
    | zero => exact h'.elim
    | succ m =>
      unfold whileD at h'
      refine ⟨T, F', ρ', sr', (PostS.bind h').imp fun b H1 ⟨b', F1, ρ1, s1, sr1, eb, h1⟩ => ?_⟩
      subst eb
      cases b' with
      | true =>
        refine iteT ⟨fun σ2 H2 => ∃ F2 ρ2, SR X.K X.mg T F2 H2 σ2 ρ2 ∧ Same F F2 ∧ PostS X.K X.mg T W F2 D (whileD tc f m ρ2), fun σ2 H2 h2 => ⟨m, Nat.lt_succ_self _, h2⟩, T, F1, ρ1, sr1, ?_⟩
        rw [if_pos rfl] at h1
        cases e2 : f ρ1 with
        | bad => rw [e2] at h1; exact h1.elim
        | ex c ns ds ρb => rw [e2] at h1; exact h1
        | ok a ρb =>
          rw [e2] at h1
          cases a with
          | nx => exact fun σ3 F3 H3 s3 sr3 => ⟨F3, ρb, sr3, (s'.trans s1).trans s3, PostS.mono s3 h1⟩
          | ct => exact fun σ3 F3 H3 s3 sr3 => ⟨F3, ρb, sr3, (s'.trans s1).trans s3, PostS.mono s3 h1⟩
          | bk => exact h1
          | rt d => exact h1
      | false =>
        rw [if_neg Bool.false_ne_true] at h1
        exact iteF (h1 σ' F1 H1 (Same.refl _) sr1)
end
end DL

set_option Elab.async false
set_option linter.all false
set_option maxRecDepth 100000
set_option maxHeartbeats 4000000
/-! DR5: defs, calls, instances. -/
namespace DL
open PySem PySem.Spec L2
open PyProof.Rows hiding St

/-! ### a def -/
def mergeA (ρ' : List Sl) : Nat → List Sl → Option (List Sl)
  | _, [] => some []
  | i, .fz d :: r => (mergeA ρ' (i + 1) r).map (.fz d :: ·)
  | i, .io _ :: r => (match ρ'.getD i .no with
    | .io ys => (mergeA ρ' (i + 1) r).map (.io ys :: ·)
    | _ => none)
  | i, .oi _ _ _ :: r => (match ρ'.getD i .no with
    | .oi c ns ds => (mergeA ρ' (i + 1) r).map (.oi c ns ds :: ·)
    | _ => none)
  | _, _ :: _ => none
/-- a def of n parameters and N names by its body's meaning: from what its parameters hold to its answer and what they hold then -/
def fOf (n N : Nat) (b : EM Fl) : EM D := fun as => if as.length = n then (match b (as ++ List.replicate (N - as.length) .no) with
  | .ok (.rt d) ρ' => (match mergeA ρ' 0 as with
    | some as' => .ok d as'
    | none => .bad)
  | .ok .nx ρ' => (match mergeA ρ' 0 as with
    | some as' => .ok .non as'
    | none => .bad)
  | .ex c ns ds ρ' => (match mergeA ρ' 0 as with
    | some as' => .ex c ns ds as'
    | none => .bad)
  | _ => .bad) else .bad
def spG (K : PySem.W.Frag) (mg : Str → Option Value) (fs : EM D) : Sp := fun vs H Q E => ∃ T F as, SR K mg T F H (vs.map some) as ∧ Post K mg T (fun c d _ H' => E c d H') (repE K mg) F (vs.map some) Q (fs as)
def sp0 (K : PySem.W.Frag) (mg : Str → Option Value) (fs : EM D) : Sp := fun vs H Q _ => spG K mg fs vs H Q E0
inductive MgRel (ρ' : List Sl) (j : Nat) : Sl → Sl → Prop
  | no : MgRel ρ' j .no .no
  | fz (d : D) : MgRel ρ' j (.fz d) (.fz d)
  | io (xs ys : List D) (h : ρ'.getD j .no = .io ys) : MgRel ρ' j (.io xs) (.io ys)
  | oi (c c' : Str) (ns ns' : List Str) (ds ds' : List D) (h : ρ'.getD j .no = .oi c' ns' ds') : MgRel ρ' j (.oi c ns ds) (.oi c' ns' ds')
theorem getD_cons {x : Sl} {r : List Sl} {j : Nat} : (x :: r).getD (j + 1) .no = r.getD j .no := by simp
theorem getD_nil {j : Nat} : ([] : List Sl).getD j .no = .no := by simp
theorem getD_zero {x : Sl} {r : List Sl} : (x :: r).getD 0 .no = x := by simp
theorem merge_rel {ρ' : List Sl} : ∀ {as as' : List Sl} {i : Nat}, mergeA ρ' i as = some as' → as'.length = as.length ∧ ∀ j, MgRel ρ' (i + j) (as.getD j .no) (as'.getD j .no)
  | [], as', i, e => by
    cases e
    exact ⟨rfl, fun j => by rw [getD_nil]; exact .no⟩
  | .fz d :: r, as', i, e => by
    unfold mergeA at e
    obtain ⟨t, e1, e2⟩ := Option.map_eq_some_iff.mp e
    subst e2
    obtain ⟨h1, h2⟩ := merge_rel e1
    refine ⟨by rw [List.length_cons, List.length_cons, h1], fun j => ?_⟩
    cases j with
    | zero => rw [getD_zero, getD_zero]; exact .fz d
    | succ j =>
      rw [getD_cons, getD_cons, show i + (j + 1) = i + 1 + j by omega]
      exact h2 j
  | .io xs :: r, as', i, e => by
    unfold mergeA at e
    split at e
    · rename_i ys z
      obtain ⟨t, e1, e2⟩ := Option.map_eq_some_iff.mp e
      subst e2
      obtain ⟨h1, h2⟩ := merge_rel e1
      refine ⟨by rw [List.length_cons, List.length_cons, h1], fun j => ?_⟩
      cases j with
      | zero => rw [getD_zero, getD_zero]; exact .io xs ys z
      | succ j =>
        rw [getD_cons, getD_cons, show i + (j + 1) = i + 1 + j by omega]
        exact h2 j
    · cases e
  | .oi c ns ds :: r, as', i, e => by
    unfold mergeA at e
    split at e
    · rename_i c' ns' ds' z
      obtain ⟨t, e1, e2⟩ := Option.map_eq_some_iff.mp e
      subst e2
      obtain ⟨h1, h2⟩ := merge_rel e1
      refine ⟨by rw [List.length_cons, List.length_cons, h1], fun j => ?_⟩
      cases j with
      | zero => rw [getD_zero, getD_zero]; exact .oi c c' ns ns' ds ds' z
      | succ j =>
        rw [getD_cons, getD_cons, show i + (j + 1) = i + 1 + j by omega]
        exact h2 j
    · cases e
  | .no :: r, as', i, e => by cases e
  | .ow xs :: r, as', i, e => by cases e
section
variable {K : PySem.W.Frag} {mg : Str → Option Value} {T : Sit} {F H F0 H0 : Hp} {σ σ' : St} {ρ as as' : List Sl}
theorem merge_ok (h0 : SR K mg T F0 H0 σ as) (h : SR K mg T F H σ' ρ) (s : Same F0 F) (e : mergeA ρ 0 as = some as') : SR K mg T F H σ as' := by
  obtain ⟨hl, hr⟩ := merge_rel e
  have hr : ∀ j, MgRel ρ j (as.getD j .no) (as'.getD j .no) := fun j => by
    have := hr j
    rw [Nat.zero_add] at this
    exact this
  have ow : ∀ j, (as'.getD j .no).own = true → (as.getD j .no).own = true := fun j o => by
    have w := hr j
    revert w o
    generalize as.getD j .no = x
    generalize as'.getD j .no = y
    intro o w
    cases w <;> first | exact o | rfl
  refine ⟨h.sub, h.pr, h.pf, fun j => ?_, fun i a o e => h0.po i a (ow i o) e, fun i j a o1 o2 => h0.ap i j a (ow i o1) (ow j o2), hl.trans h0.len⟩
  have w := hr j
  have w0 := h0.sl j
  have w1 := h.sl j
  revert w w0
  generalize as.getD j .no = x
  generalize as'.getD j .no = y
  intro w w0
  cases w with
  | no => trivial
  | fz d =>
    obtain ⟨v, e, r⟩ := w0
    exact ⟨v, e, r.mono s⟩
  | io xs ys z =>
    rw [z] at w1
    obtain ⟨e0, _⟩ := w0
    obtain ⟨_, n, vs, q, r⟩ := w1
    exact ⟨e0, n, vs, q, r⟩
  | oi c c' ns ns' ds ds' z =>
    rw [z] at w1
    obtain ⟨e0, _⟩ := w0
    obtain ⟨_, n, w1⟩ := w1
    exact ⟨e0, n, w1⟩
theorem getD_app {as bs : List Sl} {j : Nat} (hb : ∀ x ∈ bs, x = Sl.no) : (as ++ bs).getD j Sl.no = as.getD j Sl.no := by
  rw [List.getD_eq_getElem?_getD, List.getD_eq_getElem?_getD]
  by_cases z : j < as.length
  · rw [List.getElem?_append_left z]
  · rw [List.getElem?_append_right (by omega), List.getElem?_eq_none (l := as) (by omega)]
    cases q : bs[j - as.length]? with
    | none => rfl
    | some x => rw [hb x (List.mem_of_getElem? q)]; rfl
theorem SR.pad (h : SR K mg T F H σ as) (k : Nat) : SR K mg T F H (σ ++ List.replicate k none) (as ++ List.replicate k .no) := by
  have g : ∀ j, (as ++ List.replicate k Sl.no).getD j Sl.no = as.getD j Sl.no := fun j => getD_app fun x hx => List.eq_of_mem_replicate hx
  have own : ∀ j, (as.getD j .no).own = true → (σ ++ List.replicate k none)[j]? = σ[j]? := fun j o => by
    have hl : j < as.length := by
      by_cases q : j < as.length
      · exact q
      · rw [getD_big q] at o
        cases o
    rw [h.len] at hl
    rw [List.getElem?_append_left hl]
  refine ⟨h.sub, h.pr, h.pf, fun j => ?_, fun i a o e => ?_, fun i j a o1 o2 e1 e2 => ?_, by rw [List.length_append, List.length_append, h.len, List.length_replicate, List.length_replicate]⟩
  · rw [g]
    by_cases q : j < as.length
    · rw [List.getElem?_append_left (by rw [← h.len]; exact q)]
      exact h.sl j
    · rw [getD_big q]
      trivial
  · rw [g] at o
    exact h.po i a o (by rw [← own i o]; exact e)
  · rw [g] at o1 o2
    exact h.ap i j a o1 o2 (by rw [← own i o1]; exact e1) (by rw [← own j o2]; exact e2)
end
/-- THE RULE for a def that lets no exception out -/
theorem fn0 {P : Program} {w : World} {K : PySem.W.Frag} {mg : Str → Option Value} {base : Heap} {x qual : Str} {st : Stmt} {f : Addr} {fd : FuncData} {N ps : List Str} {k : Nat} {b : EM Fl} {dvs : List V} {kws : List (Str × V)}
    (F : FunD K x qual (defArgs st) (defBody st) (defScope st) dvs kws f fd) (S : FnScope N ps (defScope st))
    (hb : ∀ (cdv : Value) (A : Around) (outer : List Env) (s : Shared) (H : Hp) (E : XK), Room k (A.deeper (envOfC qual (defScope st) s.heap.objs.size f cdv)) →
      PSs (cxOf CX0 P w K mg base N qual (defScope st) f cdv A outer s H E).nox (defBody st) (tS K mg W0 b)) : FnOk P w K mg base CX0 (k + 1) f fd ps (sp0 K mg (fOf ps.length N.length b)) := by
  refine F.ok S (fun vs H Q E h => ?_) (fun cdv A outer s H vs Q E hr h => ⟨_, (hb cdv A outer s H E hr).nox, ?_⟩)
  · obtain ⟨T, F, as, sr, h⟩ := h
    unfold fOf at h
    by_cases z : as.length = ps.length
    · rw [← z, sr.len, List.length_map]
    · rw [if_neg z] at h
      exact h.elim
  · obtain ⟨T, F, as, sr, h⟩ := h
    unfold fOf at h
    by_cases z : as.length = ps.length
    · rw [if_pos z] at h
      have e : L2.start N vs = vs.map some ++ List.replicate (N.length - as.length) none := by
        unfold L2.start
        rw [sr.len, List.length_map]
      rw [e]
      refine ⟨T, F, _, sr.pad (N.length - as.length), ?_⟩
      cases q : b (as ++ List.replicate (N.length - as.length) .no) with
      | bad => rw [q] at h; exact h.elim
      | ex c ns ds ρ' =>
        rw [q] at h
        dsimp only at h
        cases q2 : mergeA ρ' 0 as with
        | none => rw [q2] at h; exact h.elim
        | some as' =>
          rw [q2] at h
          exact fun σ' C dx F' H' s sr' m xr => h C dx F' H' s (merge_ok sr sr' s q2) m xr
      | ok a ρ' =>
        rw [q] at h
        cases a with
        | nx =>
          dsimp only at h
          cases q2 : mergeA ρ' 0 as with
          | none => rw [q2] at h; exact h.elim
          | some as' =>
            rw [q2] at h
            exact fun σ' F' H' s sr' => h .non F' H' s (merge_ok sr sr' s q2) (rep_non.mpr rfl)
        | rt d =>
          dsimp only at h
          cases q2 : mergeA ρ' 0 as with
          | none => rw [q2] at h; exact h.elim
          | some as' =>
            rw [q2] at h
            exact fun σ' v F' H' s sr' r => h v F' H' s (merge_ok sr sr' s q2) r
        | bk => exact h.elim
        | ct => exact h.elim
    · rw [if_neg z] at h
      exact h.elim

/-! ### the caller's side -/
/-- all that is there but the frozen part and what is lent -/
noncomputable def rest (F H : Hp) (lent : Addr → Prop) : Hp := open Classical in fun a => if F a = none ∧ ¬ lent a then H a else none
section
variable {K : PySem.W.Frag} {mg : Str → Option Value} {T : Sit} {F H F' H' : Hp} {σ : St} {ρ : List Sl}
theorem rest_some {lent : Addr → Prop} {a : Addr} {o : HO} (h : rest F H lent a = some o) : F a = none ∧ ¬ lent a ∧ H a = some o := by
  unfold rest at h
  split at h
  · rename_i z
    exact ⟨z.1, z.2, h⟩
  · cases h
theorem rest_of {lent : Addr → Prop} {a : Addr} {o : HO} (e : H a = some o) (n : F a = none) (l : ¬ lent a) : rest F H lent a = some o := by
  unfold rest
  rw [if_pos ⟨n, l⟩]
  exact e
theorem map_fz_getD {ds : List D} {j : Nat} : (ds.map Sl.fz).getD j .no = match ds[j]? with
    | some d => .fz d
    | none => .no := by
  rw [List.getD_eq_getElem?_getD, List.getElem?_map]
  cases ds[j]? <;> rfl
theorem fz_own {ds : List D} {j : Nat} : ((ds.map Sl.fz).getD j .no).own = false := by
  rw [map_fz_getD]
  cases ds[j]? <;> rfl
/-- arguments that are frozen data -/
theorem SR.args (s : Same F H) {ds : List D} {vs : List V} (r : RepL K mg F ds vs) : SR K mg ⟨fun _ => 0, rest F H fun _ => False⟩ F H (vs.map some) (ds.map .fz) := by
  refine ⟨s, fun a o (e : rest F H (fun _ => False) a = some o) => (rest_some e).2.2, fun a o (e : rest F H (fun _ => False) a = some o) => (rest_some e).1, fun i => ?_, fun i a o => ?_, fun i j a o => ?_, by rw [List.length_map, List.length_map, r.length]⟩
  · rw [map_fz_getD]
    cases z : ds[i]? with
    | none => trivial
    | some d =>
      obtain ⟨v, e, rv⟩ := r.get' z
      exact ⟨v, by rw [List.getElem?_map, e]; rfl, rv⟩
  · rw [fz_own] at o; cases o
  · rw [fz_own] at o; cases o
theorem grow_of {anc : Nat → Addr} {as : List Sl} (s : Same F H) (sf : Same F F') (sr : SR K mg ⟨anc, rest F H fun _ => False⟩ F' H' σ as) : Grow F H F' H' := by
  refine ⟨sf, fun a o e => ?_, sr.sub, fun a o e n => sr.pf a o (show rest F H (fun _ => False) a = some o from rest_of e n id)⟩
  cases q : F a with
  | none => exact sr.pr a o (show rest F H (fun _ => False) a = some o from rest_of e q id)
  | some u =>
    have : u = o := by
      have := s a u q
      rw [e] at this
      exact (Option.some.inj this).symm
    rw [← this]
    exact sr.sub a u (sf a u q)
end
def callRes (fs : EM D) (ds : List D) : EM D := fun ρ => match fs (ds.map .fz) with
  | .ok d _ => .ok d ρ
  | .ex c ns es _ => .ex c ns es ρ
  | .bad => .bad
def callRes0 (fs : EM D) (ds : List D) : EM D := fun ρ => match fs (ds.map .fz) with
  | .ok d _ => .ok d ρ
  | _ => .bad
def eCall0 (fs : EM D) (fa : EM (List D)) : EM D := fa.bind (callRes0 fs)
def eCall (fs : EM D) (fa : EM (List D)) : EM D := fa.bind (callRes fs)
section
variable {K : PySem.W.Frag} {mg : Str → Option Value} {T : Sit} {W : WX} {F H F' H' : Hp} {σ : St} {ρ : List Sl} {fs : EM D} {ds : List D} {vs : List V} {Q : VK}
theorem call_fz (sr : SR K mg T F H σ ρ) (r : RepL K mg F ds vs) (h : Post K mg T W (repE K mg) F σ Q (callRes fs ds ρ)) : spG K mg fs vs H Q (fun c d H' => W c d σ H') := by
  refine ⟨_, F, ds.map .fz, SR.args sr.sub r, ?_⟩
  unfold callRes at h
  cases z : fs (ds.map .fz) with
  | bad => rw [z] at h; exact h.elim
  | ok d as' =>
    rw [z] at h
    exact fun v F' H' s sr' rv => h.ok_grow sr (grow_of sr.sub s sr') rv
  | ex c ns es as' =>
    rw [z] at h
    exact fun C dx F' H' s sr' m xr => h C dx F' H' s (sr.grow (grow_of sr.sub s sr')) m xr
theorem call0_fz (sr : SR K mg T F H σ ρ) (r : RepL K mg F ds vs) (h : Post K mg T W (repE K mg) F σ Q (callRes0 fs ds ρ)) (E : XK) : sp0 K mg fs vs H Q E := by
  have h2 : Post K mg T W0 (repE K mg) F σ Q (callRes fs ds ρ) := by
    unfold callRes0 at h
    unfold callRes
    cases z : fs (ds.map .fz) with
    | bad => rw [z] at h; exact h.elim
    | ok d as' => rw [z] at h; exact h
    | ex c ns es as' => rw [z] at h; exact h.elim
  exact call_fz sr r h2
end
/-- what a callee lets out is what is wished here, at these slots -/
def Lets (CX : CXT) (X : Cx) (W : WX) : Prop := ∀ (pins : List (Addr × Obj)) (σ : St) (H : Hp) (s : Shared) (e : Value) (s' : Shared), Inv X pins σ H s → CX X.stack H s (fun c d H' => W c d σ H') e s' → X.xe e s'
theorem lets0 {X : Cx} {W : WX} : Lets CX0 X W := fun _ _ _ _ _ _ _ h => h.elim
section
variable {X : Cx} {W : WX} {CX : CXT} {k : Nat} {f C g : Addr} {sp : Sp} {fs : EM D} {x m : Str} {p pos apos : Pos} {e o : Expr} {es : List Expr} {fa : EM (List D)} {fe : EM D} {t : TA} {ta : TE}
theorem run_fnG {pins : List (Addr × Obj)} {σ : St} {H : Hp} {s : Shared} {Q : VK} {us : List Value} {vs : List V} {E : XK} (G : FnR X.prog X.w X.K X.mg X.base CX k f sp) (hr : Room k X.A) (hx : ∀ e s', CX X.stack H s E e s' → X.xe e s') (I : Inv X pins σ H s) (r : Vals vs us) (h : sp vs H Q E) :
    wpAny (model X.prog X.w) X.A (call (.ref f) us) (EP X pins σ Q) X.xe s := by
  refine wpAny_call (codeAny_mono (G X.A X.stack s H us vs Q E hr I.env0 r h) fun r s' hq => ?_)
  cases r with
  | error e => exact hx e s' hq
  | ok fl =>
    cases fl with
    | ret u => exact I.after hq
    | next => exact False.elim hq
    | brk => exact False.elim hq
    | cont => exact False.elim hq
/-- f(e, ..) -/
theorem pe_callG (G : FnR X.prog X.w X.K X.mg X.base CX k f sp) (hr : Room k X.A) (hg : Gl X x) (hm : X.mg x = some (.ref f)) (hk : PySem.W.keepIn X.K (.ref f) = true) (lt : Lets CX X W) (ha : PA X (e :: es) t)
    (hdb : (x == ("__debug__" : Str)) = false := by decide) (he : starEach (e :: es) X.env = (false, eval e X.env) :: starEach es X.env := by rfl) (hpl : (backTo pos (starEach es X.env)).any (·.1) = false := by rfl) :
    PE X (.Call (.Name x p) (e :: es) [] pos) (fun σ H Q => t σ H fun vs H1 => sp vs H1 Q (fun c d H' => W c d σ H')) := by
  refine ⟨fun pins s σ H Q I h => ?_⟩
  refine wpAny_Call_Name_kw (ld_glob I hg hm ?_ hdb)
  refine PySem.W.callWith_K (h₀ := X.base) I.ok.mod.kin hk (thn (ha.run pos pins s σ H _ I h) fun us s1 ⟨vs, H1, I1, r, q⟩ => ⟨I1.kIn, ?_⟩) he hpl
  exact run_fnG G hr (fun e s' c => lt pins σ H1 s1 e s' I1 c) I1 r q
theorem de_call0 (G : FnR X.prog X.w X.K X.mg X.base CX0 k f (sp0 X.K X.mg fs)) (hr : Room k X.A) (hg : Gl X x) (hm : X.mg x = some (.ref f)) (hk : PySem.W.keepIn X.K (.ref f) = true) (ha : PA X (e :: es) (tA X.K X.mg W fa))
    (hdb : (x == ("__debug__" : Str)) = false := by decide) (he : starEach (e :: es) X.env = (false, eval e X.env) :: starEach es X.env := by rfl) (hpl : (backTo pos (starEach es X.env)).any (·.1) = false := by rfl) :
    PE X (.Call (.Name x p) (e :: es) [] pos) (tE X.K X.mg W (eCall0 fs fa)) :=
  (pe_callG (W := W) G hr hg hm hk lets0 ha hdb he hpl).imp fun σ H Q ⟨T, F, ρ, sr, h⟩ => ⟨T, F, ρ, sr, (Post.bind h).imp fun vs H1 ⟨ds, F1, ρ1, sr1, r, h1⟩ => call0_fz sr1 r h1 _⟩
theorem de_call (G : FnR X.prog X.w X.K X.mg X.base CX k f (spG X.K X.mg fs)) (lt : Lets CX X W) (hr : Room k X.A) (hg : Gl X x) (hm : X.mg x = some (.ref f)) (hk : PySem.W.keepIn X.K (.ref f) = true) (ha : PA X (e :: es) (tA X.K X.mg W fa))
    (hdb : (x == ("__debug__" : Str)) = false := by decide) (he : starEach (e :: es) X.env = (false, eval e X.env) :: starEach es X.env := by rfl) (hpl : (backTo pos (starEach es X.env)).any (·.1) = false := by rfl) :
    PE X (.Call (.Name x p) (e :: es) [] pos) (tE X.K X.mg W (eCall fs fa)) :=
  (pe_callG (W := W) G hr hg hm hk lt ha hdb he hpl).imp fun σ H Q ⟨T, F, ρ, sr, h⟩ => ⟨T, F, ρ, sr, (Post.bind h).imp fun vs H1 ⟨ds, F1, ρ1, sr1, r, h1⟩ => call_fz sr1 r h1⟩
end

/-! ### a call that is lent a list -/
def ioRes (j : Nat) (fs : EM D) (ds : List D) : EM D := fun ρ => match ownL (ρ.getD j .no) with
  | none => .bad
  | some xs => match fs (.io xs :: ds.map .fz) with
    | .ok d (.io ys :: _) => .ok d (ρ.set j (reL (ρ.getD j .no) ys))
    | _ => .bad
def eCallIO (j : Nat) (fs : EM D) (fa : EM (List D)) : EM D := fun ρ => match ownL (ρ.getD j .no) with
  | none => .bad
  | some _ => (fa ρ).bind (ioRes j fs)
section
variable {K : PySem.W.Frag} {mg : Str → Option Value} {T : Sit} {W : WX} {F H : Hp} {σ : St} {ρ : List Sl} {fs : EM D} {ds : List D} {vs : List V} {Q : VK}
theorem call_io {j : Nat} {a : Addr} (sr : SR K mg T F H σ ρ) (r : RepL K mg F ds vs) (ea : σ[j]? = some (some (.ref a))) (h : Post K mg T W (repE K mg) F σ Q (ioRes j fs ds ρ)) (E : XK) : sp0 K mg fs (.ref a :: vs) H Q E := by
  unfold ioRes at h
  cases z : ownL (ρ.getD j .no) with
  | none => rw [z] at h; exact h.elim
  | some xs =>
    rw [z] at h
    dsimp only at h
    obtain ⟨b, ws, eb, n, q, rx⟩ := sr.lst_at z
    rw [ea] at eb
    cases eb
    have oj := ownL_some z
    have sr0 : SR K mg ⟨fun _ => a, rest F H fun b => b = a⟩ F H ((V.ref a :: vs).map some) (.io xs :: ds.map .fz) := by
      have own : ∀ i, ((Sl.io xs :: ds.map .fz).getD i .no).own = true → i = 0 := fun i o => by
        cases i with
        | zero => rfl
        | succ i =>
          rw [getD_cons, fz_own] at o
          cases o
      refine ⟨sr.sub, fun b o (e : rest F H (fun b => b = a) b = some o) => (rest_some e).2.2, fun b o (e : rest F H (fun b => b = a) b = some o) => (rest_some e).1, fun i => ?_, fun i b o e => ?_, fun i k b o1 o2 _ _ => by rw [own i o1, own k o2], by simp [r.length]⟩
      · cases i with
        | zero =>
          rw [getD_zero]
          exact ⟨rfl, n, ws, q, rx⟩
        | succ i =>
          rw [getD_cons, map_fz_getD]
          cases z : ds[i]? with
          | none => trivial
          | some d =>
            obtain ⟨v, e, rv⟩ := r.get' z
            exact ⟨v, by simp [e], rv⟩
      · have e0 := own i o
        subst e0
        have eb : b = a := by simpa using e.symm
        subst eb
        show rest F H (fun c => c = b) b = none
        cases q : rest F H (fun c => c = b) b with
        | none => rfl
        | some u => exact absurd rfl (rest_some q).2.1
    refine ⟨_, F, _, sr0, ?_⟩
    cases y : fs (.io xs :: ds.map .fz) with
    | bad => rw [y] at h; exact h.elim
    | ex c ns es as' => rw [y] at h; exact h.elim
    | ok d as' =>
      rw [y] at h
      match as', h with
      | [], h => exact h.elim
      | .no :: _, h => exact h.elim
      | .fz _ :: _, h => exact h.elim
      | .ow _ :: _, h => exact h.elim
      | .oi _ _ _ :: _, h => exact h.elim
      | .io ys :: as', h =>
        intro v F' H' s sr' rv
        have w := sr'.sl 0
        rw [getD_zero] at w
        obtain ⟨_, n', ws', q', rx'⟩ := w
        have n' : F' a = none := n'
        have q' : H' a = some (.lst ws') := q'
        refine h v F' H' s (sr.change oj ea s sr'.sub (fun b o nb e nf => ?_) ?_) rv
        · have e1 : rest F H (fun b => b = a) b = some o := rest_of e nf nb
          exact ⟨sr'.pr b o e1, sr'.pf b o e1⟩
        · cases zz : ρ.getD j .no with
          | ow zs => exact ⟨a, ws', ea, n', q', rx'⟩
          | io zs =>
            have w := sr.sl j
            rw [zz] at w
            obtain ⟨e2, _⟩ := w
            rw [ea] at e2
            have eq : a = T.anc j := by injection e2 with e2; injection e2 with e2; injection e2
            subst eq
            exact ⟨ea, n', ws', q', rx'⟩
          | _ => rw [zz] at z; cases z
end
section
variable {X : Cx} {W : WX} {k : Nat} {f : Addr} {fs : EM D} {x : Str} {p pos : Pos} {e : Expr} {es : List Expr} {fa : EM (List D)}
theorem de_callIO (j : Nat) (G : FnR X.prog X.w X.K X.mg X.base CX0 k f (sp0 X.K X.mg fs)) (hr : Room k X.A) (hg : Gl X x) (hm : X.mg x = some (.ref f)) (hk : PySem.W.keepIn X.K (.ref f) = true) (hj : PE X e (tVar j)) (ha : PA X es (tA X.K X.mg W fa))
    (hdb : (x == ("__debug__" : Str)) = false := by decide) (he : starEach (e :: es) X.env = (false, eval e X.env) :: starEach es X.env := by rfl) (hpl : (backTo pos (starEach es X.env)).any (·.1) = false := by rfl) :
    PE X (.Call (.Name x p) (e :: es) [] pos) (tE X.K X.mg W (eCallIO j fs fa)) :=
  (pe_callG (W := W) G hr hg hm hk lets0 (pa_cons hj ha he) hdb he hpl).imp fun σ H Q ⟨T, F, ρ, sr, h⟩ => by
    unfold eCallIO at h
    cases z : ownL (ρ.getD j .no) with
    | none => rw [z] at h; exact h.elim
    | some xs =>
      rw [z] at h
      obtain ⟨a, ws, ea, _⟩ := sr.lst_at z
      exact ⟨.ref a, ea, T, F, ρ, sr, (Post.bind h).imp fun vs H1 ⟨ds, F1, ρ1, sr1, r, h1⟩ => call_io sr1 r ea h1 _⟩
end
end DL

set_option Elab.async false
set_option linter.all false
set_option maxRecDepth 100000
set_option maxHeartbeats 4000000
/-! DR6: instances: made, read, stored, asked by methods. -/
namespace DL
open PySem PySem.Spec L2
open PyProof.Rows hiding St

/-! ### attributes -/
theorem fld_look {K : PySem.W.Frag} {mg : Str → Option Value} {F : Hp} {f : Str} {d : D} : ∀ {ns : List Str} {ds : List D} {fs : List (Str × V)}, fs.map (·.1) = ns → RepL K mg F ds (fs.map (·.2)) → fldN ns ds f = some d → ∃ v, fs.lookup f = some v ∧ Rep K mg F d v
  | [], ds, fs, _, _, h => by cases ds <;> cases h
  | n :: ns, [], fs, _, _, h => by cases h
  | n :: ns, e :: ds, fs, h1, h2, h => by
    cases fs with
    | nil => cases h1
    | cons q fs =>
      obtain ⟨g, v⟩ := q
      have e1 : g = n := (List.cons.inj h1).1
      have e2 : fs.map (·.1) = ns := (List.cons.inj h1).2
      obtain ⟨r1, r2⟩ := RepL.cons_iff.mp (show RepL K mg F (e :: ds) (v :: fs.map (·.2)) from h2)
      have h : (if f == n then some e else fldN ns ds f) = some d := h
      subst e1
      cases z : f == g with
      | true =>
        rw [z] at h
        have h : e = d := Option.some.inj h
        subst h
        refine ⟨v, ?_, r1⟩
        show (match f == g with | true => some v | false => fs.lookup f) = some v
        rw [z]
      | false =>
        rw [z] at h
        obtain ⟨u, a, b⟩ := fld_look e2 r2 (show fldN ns ds f = some d from h)
        refine ⟨u, ?_, b⟩
        show (match f == g with | true => some v | false => fs.lookup f) = some u
        rw [z]
        exact a
theorem fld_none {f : Str} : ∀ {ns : List Str} {fs : List (Str × V)}, fs.map (·.1) = ns → ns.contains f = false → fs.lookup f = none
  | [], fs, h1, h2 => by
    cases fs with
    | nil => rfl
    | cons _ _ => cases h1
  | n :: ns, fs, h1, h2 => by
    cases fs with
    | nil => cases h1
    | cons q fs =>
      obtain ⟨g, v⟩ := q
      have e1 : g = n := (List.cons.inj h1).1
      have e2 : fs.map (·.1) = ns := (List.cons.inj h1).2
      subst e1
      rw [List.contains_cons, Bool.or_eq_false_iff] at h2
      show (match f == g with | true => some v | false => fs.lookup f) = none
      rw [h2.1]
      exact fld_none e2 h2.2
theorem put_keys {f : Str} {v : V} : ∀ {ns : List Str} {fs : List (Str × V)}, fs.map (·.1) = ns → (putF f v fs).map (·.1) = putNs f ns
  | [], fs, h => by
    cases fs with
    | nil => rfl
    | cons _ _ => cases h
  | n :: ns, fs, h => by
    cases fs with
    | nil => cases h
    | cons q fs =>
      obtain ⟨g, u⟩ := q
      have e1 : g = n := (List.cons.inj h).1
      have e2 : fs.map (·.1) = ns := (List.cons.inj h).2
      subst e1
      show ((if g = f then (g, v) :: fs else (g, u) :: putF f v fs).map (·.1)) = if g = f then g :: ns else g :: putNs f ns
      by_cases z : g = f
      · rw [if_pos z, if_pos z, List.map_cons, e2]
      · rw [if_neg z, if_neg z, List.map_cons, put_keys e2]
theorem put_vals {K : PySem.W.Frag} {mg : Str → Option Value} {F : Hp} {f : Str} {d : D} {v : V} (r : Rep K mg F d v) : ∀ {ns : List Str} {ds : List D} {fs : List (Str × V)}, fs.map (·.1) = ns → RepL K mg F ds (fs.map (·.2)) → RepL K mg F (putDs f d ns ds) ((putF f v fs).map (·.2))
  | [], ds, fs, h, h2 => by
    cases fs with
    | nil =>
      cases ds with
      | nil => exact .cons r .nil
      | cons e ds =>
        unfold RepL at h2
        obtain ⟨_, _, q, _⟩ := h2
        cases q
    | cons _ _ => cases h
  | n :: ns, ds, fs, h, h2 => by
    cases fs with
    | nil => cases h
    | cons q fs =>
      obtain ⟨g, u⟩ := q
      have e1 : g = n := (List.cons.inj h).1
      have e2 : fs.map (·.1) = ns := (List.cons.inj h).2
      subst e1
      cases ds with
      | nil =>
        unfold RepL at h2
        cases h2
      | cons e ds =>
        obtain ⟨r1, r2⟩ := RepL.cons_iff.mp (show RepL K mg F (e :: ds) (u :: fs.map (·.2)) from h2)
        show RepL K mg F (if g = f then d :: ds else e :: putDs f d ns ds) ((if g = f then (g, v) :: fs else (g, u) :: putF f v fs).map (·.2))
        by_cases z : g = f
        · rw [if_pos z, if_pos z]
          exact .cons r r2
        · rw [if_neg z, if_neg z]
          exact .cons r1 (put_vals r e2 r2)
/-- the class named c: its facts -/
structure ClsD (K : PySem.W.Frag) (mg : Str → Option Value) (c : Str) (C : Addr) : Prop where
  mg : mg c = some (.ref C)
  cls : Cls K C
theorem cls_same {mg : Str → Option Value} {c : Str} {C C' : Addr} (h : mg c = some (.ref C)) (h' : mg c = some (.ref C')) : C' = C := by
  rw [h] at h'
  injection h' with h'
  injection h' with h'
  exact h'.symm
def fldOf (c f : Str) : D → Option D
  | .ins c' ns ds => if c' = c then fldN ns ds f else none
  | _ => none
def eFld (c f : Str) (fe : EM D) : EM D := fe.bind fun d => EM.opt (fldOf c f d)
def eFldV (i : Nat) (c f : Str) : EM D := fun ρ => match ρ.getD i .no with
  | .fz d => EM.opt (fldOf c f d) ρ
  | .oi c' ns ds => if c' = c then EM.opt (fldN ns ds f) ρ else .bad
  | _ => .bad
section
variable {X : Cx} {W : WX} {e : Expr} {fe : EM D} {c f : Str} {C : Addr} {pos : Pos}
theorem fldOf_some {d r : D} (h : fldOf c f d = some r) : ∃ ns ds, d = .ins c ns ds ∧ fldN ns ds f = some r := by
  cases d with
  | ins c' ns ds =>
    have h : (if c' = c then fldN ns ds f else none) = some r := h
    by_cases z : c' = c
    · rw [if_pos z] at h
      exact ⟨ns, ds, by rw [z], h⟩
    · rw [if_neg z] at h
      cases h
  | _ => cases h
theorem de_fld (k : ClsD X.K X.mg c C) (n : NoAttr X.K C f) (he : PE X e (tE X.K X.mg W fe)) (hb : attributeBase e f X.env (eval e X.env) = eval e X.env := by rfl) : PE X (.Attribute e f pos) (tE X.K X.mg W (eFld c f fe)) :=
  (pe_fld he hb).imp fun σ H Q ⟨T, F, ρ, sr, h⟩ => ⟨T, F, ρ, sr, (Post.bind h).imp fun v H1 ⟨d, F1, ρ1, sr1, r, h1⟩ => by
    unfold EM.opt at h1
    cases z : fldOf c f d with
    | none => rw [z] at h1; exact h1.elim
    | some q =>
      rw [z] at h1
      obtain ⟨ns, ds, ed, hq⟩ := fldOf_some z
      subst ed
      unfold Rep at r
      obtain ⟨a, C', dx, fs, ev, m, ha, hn, rl⟩ := r
      obtain rfl := cls_same k.mg m
      obtain ⟨u, hu, ru⟩ := fld_look hn rl hq
      exact ⟨a, C', dx, fs, u, ev, sr1.sub _ _ ha, k.cls, n, hu, h1.ok_of sr1 ru⟩⟩
theorem de_fldV (i : Nat) (k : ClsD X.K X.mg c C) (n : NoAttr X.K C f) (he : PE X e (tVar i)) (hb : attributeBase e f X.env (eval e X.env) = eval e X.env := by rfl) : PE X (.Attribute e f pos) (tE X.K X.mg W (eFldV i c f)) :=
  (pe_fld he hb).imp fun σ H Q ⟨T, F, ρ, sr, h⟩ => by
    unfold eFldV at h
    have w := sr.sl i
    cases z : ρ.getD i .no with
    | fz d =>
      rw [z] at h w
      obtain ⟨v, e1, r⟩ := w
      dsimp only [EM.opt] at h
      cases z1 : fldOf c f d with
      | none => rw [z1] at h; exact h.elim
      | some q =>
        rw [z1] at h
        obtain ⟨ns, ds, ed, hq⟩ := fldOf_some z1
        subst ed
        unfold Rep at r
        obtain ⟨a, C', dx, fs, ev, m, ha, hn, rl⟩ := r
        obtain rfl := cls_same k.mg m
        obtain ⟨u, hu, ru⟩ := fld_look hn rl hq
        exact ⟨v, e1, a, C', dx, fs, u, ev, sr.sub _ _ ha, k.cls, n, hu, h.ok_of sr ru⟩
    | oi c' ns ds =>
      rw [z] at h w
      obtain ⟨e1, nF, C', dx, fs, m, ha, hn, rl⟩ := w
      dsimp only at h
      by_cases zc : c' = c
      · rw [if_pos zc] at h
        subst zc
        unfold EM.opt at h
        cases z1 : fldN ns ds f with
        | none => rw [z1] at h; exact h.elim
        | some q =>
          rw [z1] at h
          obtain rfl := cls_same k.mg m
          obtain ⟨u, hu, ru⟩ := fld_look hn rl z1
          exact ⟨_, e1, _, C', dx, fs, u, rfl, ha, k.cls, n, hu, h.ok_of sr ru⟩
      · rw [if_neg zc] at h
        exact h.elim
    | no => rw [z] at h; exact h.elim
    | ow xs => rw [z] at h; exact h.elim
    | io xs => rw [z] at h; exact h.elim
theorem ds_put {o value : Expr} {pos' : Pos} (i : Nat) (k : ClsD X.K X.mg c C) (n : NoAttr X.K C f) (ho : PE X o (tVar i)) (hv : PE X value (tE X.K X.mg W fe)) (hs : swapsWith value (some (.Attribute o f pos')) pos.line X.env = pure false := by rfl) :
    PS X (.Assign [.Attribute o f pos'] value pos) (tS X.K X.mg W (sPut i c f fe)) :=
  (ps_fld ho hv hs).imp fun D σ H ⟨T, F, ρ, sr, h⟩ => ⟨T, F, ρ, sr, (PostS.bind h).imp fun v H1 ⟨d, F1, ρ1, s, sr1, r, h1⟩ => by
    cases z : ρ1.getD i .no with
    | oi c' ns ds =>
      rw [z] at h1
      dsimp only at h1
      have w := sr1.sl i
      rw [z] at w
      obtain ⟨e1, nF, C', dx, fs, m, ha, hn, rl⟩ := w
      by_cases zc : c' = c ∧ ns.length < 1000
      · rw [if_pos zc] at h1
        obtain ⟨zc1, zc2⟩ := zc
        subst zc1
        obtain rfl := cls_same k.mg m
        refine ⟨_, e1, _, C', dx, fs, rfl, ha, k.cls, n, by rw [← hn, List.length_map] at zc2; exact zc2, ?_⟩
        refine h1 σ F1 _ (Same.refl _) (sr1.write (by rw [z]; rfl) e1 ⟨e1, nF, C', dx, _, m, upd_same, put_keys hn, put_vals r hn rl⟩)
      · rw [if_neg zc] at h1
        exact h1.elim
    | no => rw [z] at h1; exact h1.elim
    | fz d => rw [z] at h1; exact h1.elim
    | ow xs => rw [z] at h1; exact h1.elim
    | io xs => rw [z] at h1; exact h1.elim⟩
end

/-! ### an instance is made -/
def makeRes (c : Str) (fs : EM D) (ds : List D) : EM D := fun ρ => match fs (.oi c [] [] :: ds.map .fz) with
  | .ok .non (.oi c' ns vs :: _) => if c' = c then .ok (.ins c ns vs) ρ else .bad
  | _ => .bad
def eMake (c : Str) (fs : EM D) (fa : EM (List D)) : EM D := fa.bind (makeRes c fs)
section
variable {K : PySem.W.Frag} {mg : Str → Option Value} {T : Sit} {W : WX} {F H : Hp} {σ : St} {ρ : List Sl} {fs : EM D} {ds : List D} {vs : List V} {Q : VK} {c : Str} {C : Addr}
theorem make_go (sr : SR K mg T F H σ ρ) (r : RepL K mg F ds vs) (m : mg c = some (.ref C)) (h : Post K mg T W (repE K mg) F σ Q (makeRes c fs ds ρ)) (E : XK) (x dx : Addr) (nx : H x = none) (nd : H dx = none) (ne : dx ≠ x) :
    sp0 K mg fs (.ref x :: vs) (upd (upd H dx (.own x)) x (.ins C dx [])) (fun v H2 => v = .non ∧ Q (.ref x) H2) E := by
  have fx : F x = none := sr.sub.free nx
  have fd : F dx = none := sr.sub.free nd
  have hin : ∀ b o, H b = some o → upd (upd H dx (.own x)) x (.ins C dx []) b = some o := fun b o e => by
    rw [upd_ne (ne_of_none e nx), upd_ne (ne_of_none e nd)]
    exact e
  have sub : Same F (upd (upd H dx (.own x)) x (.ins C dx [])) := fun b o e => hin b o (sr.sub b o e)
  generalize hH : upd (upd H dx (.own x)) x (.ins C dx []) = H1 at hin sub
  have hx1 : H1 x = some (.ins C dx []) := by rw [← hH, upd_same]
  have sr0 : SR K mg ⟨fun _ => x, rest F H1 fun b => b = x⟩ F H1 ((V.ref x :: vs).map some) (.oi c [] [] :: ds.map .fz) := by
    have own : ∀ i, ((Sl.oi c [] [] :: ds.map .fz).getD i .no).own = true → i = 0 := fun i o => by
      cases i with
      | zero => rfl
      | succ i =>
        rw [getD_cons, fz_own] at o
        cases o
    refine ⟨sub, fun b o (e : rest F H1 (fun b => b = x) b = some o) => (rest_some e).2.2, fun b o (e : rest F H1 (fun b => b = x) b = some o) => (rest_some e).1, fun i => ?_, fun i b o e => ?_, fun i k b o1 o2 _ _ => by rw [own i o1, own k o2], by simp [r.length]⟩
    · cases i with
      | zero =>
        rw [getD_zero]
        exact ⟨rfl, fx, C, dx, [], m, hx1, rfl, RepL.nil⟩
      | succ i =>
        rw [getD_cons, map_fz_getD]
        cases z : ds[i]? with
        | none => trivial
        | some d =>
          obtain ⟨v, e, rv⟩ := r.get' z
          exact ⟨v, by simp [e], rv⟩
    · have e0 := own i o
      subst e0
      have eb : b = x := by simpa using e.symm
      subst eb
      show rest F H1 (fun c => c = b) b = none
      cases q : rest F H1 (fun c => c = b) b with
      | none => rfl
      | some u => exact absurd rfl (rest_some q).2.1
  refine ⟨_, F, _, sr0, ?_⟩
  unfold makeRes at h
  cases y : fs (.oi c [] [] :: ds.map .fz) with
  | bad => rw [y] at h; exact h.elim
  | ex c ns es as' => rw [y] at h; exact h.elim
  | ok d as' =>
    rw [y] at h
    cases d with
    | non =>
      match as', h with
      | [], h => exact h.elim
      | .no :: _, h => exact h.elim
      | .fz _ :: _, h => exact h.elim
      | .ow _ :: _, h => exact h.elim
      | .io _ :: _, h => exact h.elim
      | .oi c' ns es :: as', h =>
        dsimp only at h
        by_cases zc : c' = c
        · rw [if_pos zc] at h
          subst zc
          intro v F' H' s sr' rv
          refine ⟨rep_non.mp rv, ?_⟩
          have w := sr'.sl 0
          rw [getD_zero] at w
          obtain ⟨_, n', C', dx', fs', m', q', hn, rl⟩ := w
          have n' : F' x = none := n'
          have q' : H' x = some (.ins C' dx' fs') := q'
          obtain rfl := cls_same m m'
          have keep : ∀ b o, H b = some o → F b = none → H' b = some o ∧ F' b = none := fun b o e nf => by
            have e1 : rest F H1 (fun b => b = x) b = some o := rest_of (hin b o e) nf (ne_of_none e nx)
            exact ⟨sr'.pr b o e1, sr'.pf b o e1⟩
          have gr : Grow F H (upd F' x (.ins C' dx' fs')) H' := by
            refine ⟨s.trans (same_upd n'), fun b o e => ?_, fun b o e => ?_, fun b o e nf => ?_⟩
            · cases q : F b with
              | none => exact (keep b o e q).1
              | some u =>
                have : u = o := by
                  have := sr.sub b u q
                  rw [e] at this
                  exact (Option.some.inj this).symm
                rw [← this]
                exact sr'.sub b u (s b u q)
            · by_cases zb : b = x
              · subst zb
                rw [upd_same] at e
                rw [q', e]
              · rw [upd_ne zb] at e
                exact sr'.sub _ _ e
            · rw [upd_ne (ne_of_none e nx)]
              exact (keep b o e nf).2
          refine h.ok_grow sr gr ?_
          show Rep _ _ _ _ _
          unfold Rep
          exact ⟨x, C', dx', fs', rfl, m, upd_same, hn, rl.mono (same_upd n')⟩
        · rw [if_neg zc] at h
          exact h.elim
    | _ => exact h.elim
end
section
variable {X : Cx} {W : WX} {k : Nat} {f C : Addr} {fs : EM D} {x c : Str} {p pos : Pos} {e : Expr} {es : List Expr} {fa : EM (List D)}
theorem de_make0 (M : Mk X.K C f) (G : FnR X.prog X.w X.K X.mg X.base CX0 k f (sp0 X.K X.mg fs)) (hr : Room (k + 1) X.A) (hg : Gl X x) (hm : X.mg x = some (.ref C)) (ha : PA X (e :: es) (tA X.K X.mg W fa)) (hdb : (x == ("__debug__" : Str)) = false := by decide)
    (he : starEach (e :: es) X.env = (false, eval e X.env) :: starEach es X.env := by rfl) (hpl : (backTo pos (starEach es X.env)).any (·.1) = false := by rfl) : PE X (.Call (.Name x p) (e :: es) [] pos) (tE X.K X.mg W (eMake x fs fa)) :=
  (StX.pe_makeR M G hr hg hm (E := E0) pass0 ha hdb he hpl).imp fun σ H Q ⟨T, F, ρ, sr, h⟩ => ⟨T, F, ρ, sr, (Post.bind h).imp fun vs H1 ⟨ds, F1, ρ1, sr1, r, h1⟩ => fun a dx na nd ne => make_go sr1 r hm h1 _ a dx na nd ne⟩
/-- cls(e, ..), cls a name that holds the class c -/
def eMakeV (i : Nat) (c : Str) (fs : EM D) (fa : EM (List D)) : EM D := fun ρ => match ρ.getD i .no with
  | .fz (.cls c') => if c' = c then (eMake c fs fa) ρ else .bad
  | _ => .bad
theorem de_makeV (i : Nat) (M : Mk X.K C f) (G : FnR X.prog X.w X.K X.mg X.base CX0 k f (sp0 X.K X.mg fs)) (hr : Room (k + 1) X.A) (hm : X.mg c = some (.ref C)) (hf : PE X (.Name x p) (tVar i)) (ha : PA X (e :: es) (tA X.K X.mg W fa))
    (ht : eval (.Call (.Name x p) (e :: es) [] pos) X.env = (do callWith pos (← eval (.Name x p) X.env) [] (backTo pos (starEach (e :: es) X.env)) (backToKw pos (keywordEach [] X.env))) := by rfl)
    (he : starEach (e :: es) X.env = (false, eval e X.env) :: starEach es X.env := by rfl) (hpl : (backTo pos (starEach es X.env)).any (·.1) = false := by rfl) : PE X (.Call (.Name x p) (e :: es) [] pos) (tE X.K X.mg W (eMakeV i c fs fa)) := by
  refine ⟨fun pins s σ H Q I ⟨T, F, ρ, sr, h⟩ => ?_⟩
  unfold eMakeV at h
  have w := sr.sl i
  cases z : ρ.getD i .no with
  | fz d =>
    rw [z] at h w
    cases d with
    | cls c' =>
      dsimp only at h
      by_cases zc : c' = c
      · rw [if_pos zc] at h
        subst zc
        obtain ⟨v, e1, rv⟩ := w
        unfold Rep at rv
        obtain ⟨C', ev, m⟩ := rv
        obtain rfl := cls_same hm m
        subst ev
        refine Call_ (thn (hf.run pins s σ H (fun y H1 => y = .ref C' ∧ H1 = H) I ⟨_, e1, rfl, rfl⟩) fun u s1 ⟨y, H1, I1, ry, ey, eH⟩ => ?_) ht
        subst ey
        subst eH
        obtain rfl : u = Value.ref C' := ry
        refine PySem.W.callWith_K (h₀ := X.base) I1.ok.mod.kin M.kp (thn (ha.run pos pins s1 σ H1 _ I1 ⟨T, F, ρ, sr, (Post.bind h).imp fun vs H1 q => q⟩) fun us s2 ⟨vs, H2, I2, r, ds, F1, ρ1, sr1, rl, h1⟩ => ⟨I2.kIn, ?_⟩) he hpl
        exact StX.run_makeR M G hr pass0 I2 r fun a dx na nd ne => make_go sr1 rl hm h1 E0 a dx na nd ne
      · rw [if_neg zc] at h
        exact h.elim
    | _ => exact h.elim
  | no => rw [z] at h; exact h.elim
  | ow xs => rw [z] at h; exact h.elim
  | io xs => rw [z] at h; exact h.elim
  | oi c ns ds => rw [z] at h; exact h.elim
end

/-! ### properties, methods, instances called -/
/-- an instance of c none of whose fields is called m -/
def isIns (c : Str) (m : Option Str) : D → Bool
  | .ins c' ns _ => decide (c' = c) && (match m with
    | some m => !ns.contains m
    | none => true)
  | _ => false
def propRes (c : Str) (fs : EM D) (d : D) : EM D := if isIns c none d = true then callRes0 fs [d] else fun _ => .bad
def eProp (c : Str) (fs : EM D) (fe : EM D) : EM D := fe.bind (propRes c fs)
def methRes (c m : Str) (fs : EM D) (fa : EM (List D)) (d : D) : EM D := if isIns c (some m) d = true then fa.bind fun ds => callRes0 fs (d :: ds) else fun _ => .bad
def eMeth (c m : Str) (fs : EM D) (fe : EM D) (fa : EM (List D)) : EM D := fe.bind (methRes c m fs fa)
def calloRes (c : Str) (fs : EM D) (fa : EM (List D)) (d : D) : EM D := if isIns c none d = true then fa.bind fun ds => callRes0 fs (d :: ds) else fun _ => .bad
def eCallO (c : Str) (fs : EM D) (fe : EM D) (fa : EM (List D)) : EM D := fe.bind (calloRes c fs fa)
theorem isIns_rep {K : PySem.W.Frag} {mg : Str → Option Value} {F : Hp} {c : Str} {m : Option Str} {d : D} {v : V} (h : isIns c m d = true) (r : Rep K mg F d v) :
    ∃ a C dx fs, v = .ref a ∧ mg c = some (.ref C) ∧ F a = some (.ins C dx fs) ∧ ∀ f, m = some f → fs.lookup f = none := by
  cases d with
  | ins c' ns ds =>
    unfold isIns at h
    obtain ⟨h1, h2⟩ := Bool.and_eq_true_iff.mp h
    have e := of_decide_eq_true h1
    subst e
    unfold Rep at r
    obtain ⟨a, C, dx, fs, ev, mm, ha, hn, rl⟩ := r
    refine ⟨a, C, dx, fs, ev, mm, ha, fun f ef => ?_⟩
    subst ef
    have h2 : (!ns.contains f) = true := h2
    exact fld_none hn (by simpa using h2)
  | _ => cases h
section
variable {X : Cx} {W : WX} {k : Nat} {C g p' : Addr} {fs : EM D} {c m f : Str} {pos apos : Pos} {e o : Expr} {es : List Expr} {fa : EM (List D)} {fe : EM D} {fd : FuncData} {ps : List Str}
theorem de_prop (kc : ClsD X.K X.mg c C) (hp : PropOf X.K C f p' g) (G : FnOk X.prog X.w X.K X.mg X.base CX0 k g fd ps (sp0 X.K X.mg fs)) (hr : Room (k + 1) X.A) (hb : Binds X.K fd ps []) (he : PE X e (tE X.K X.mg W fe)) (hab : attributeBase e f X.env (eval e X.env) = eval e X.env := by rfl) :
    PE X (.Attribute e f pos) (tE X.K X.mg W (eProp c fs fe)) :=
  (pe_prop he kc.cls hp G hr hb .nil (E := E0) pass0 hab).imp fun σ H Q ⟨T, F, ρ, sr, h⟩ => ⟨T, F, ρ, sr, (Post.bind h).imp fun v H1 ⟨d, F1, ρ1, sr1, r, h1⟩ => by
    unfold propRes at h1
    by_cases z : isIns c none d = true
    · rw [if_pos z] at h1
      obtain ⟨a, C', dx, fs', ev, mm, ha, _⟩ := isIns_rep z r
      obtain rfl := cls_same kc.mg mm
      subst ev
      exact ⟨a, dx, fs', rfl, sr1.sub _ _ ha, call0_fz sr1 (.cons r .nil) h1 _⟩
    · rw [if_neg z] at h1
      exact h1.elim⟩
/-- o.m(e, ..) -/
theorem pe_methG {pl : Sem Bool} {sp : Sp} {ta : TE} {t : TA} (he : PE X o ta) (c : Cls X.K C) (hm : Meth X.K C m g) (G : FnR X.prog X.w X.K X.mg X.base CX0 k g sp) (hr : Room k X.A) (ha : PA X (e :: es) t)
    (hst : starEach (e :: es) X.env = (false, eval e X.env) :: starEach es X.env := by rfl) (hpl : (backTo pos (starEach es X.env)).any (·.1) = false := by rfl)
    (ht : eval (.Call (.Attribute o m apos) (e :: es) [] pos) X.env = (do
      let ov ← eval o X.env
      standAt apos.atName
      let (f, first) ← holding [ov] (getMethod ov m pl)
      callWith pos f first (backTo pos (starEach (e :: es) X.env)) (backToKw pos (keywordEach [] X.env))) := by rfl) :
    PE X (.Call (.Attribute o m apos) (e :: es) [] pos) (tMeth C m sp [] E0 ta t) := by
  refine ⟨fun pins s σ H Q I h => ?_⟩
  refine PySem.W.methodCall_KW (pl := pl) (thn (he.run pins s σ H _ I h) fun u s1 ⟨x, H1, I1, rx, a, dx, fs, ex, ea, l, q⟩ => ?_) ht
  subst ex
  obtain rfl : u = Value.ref a := rx
  refine getmeth_ok I1 ea c hm l ?_
  refine PySem.W.callWith_K (first := [.ref a]) (h₀ := X.base) I.ok.mod.kin hm.kp (thn (ha.run pos pins s1 σ H1 _ I1 q) fun us s2 ⟨vs, H2, I2, r, q2⟩ => ⟨I2.kIn, ?_⟩) hst hpl
  have q2 : sp (V.ref a :: (vs ++ [])) H2 Q E0 := q2
  rw [List.append_nil] at q2
  exact run_fnG (us := .ref a :: us) (vs := .ref a :: vs) G hr (fun _ _ z => z.elim) I2 (.cons rfl r) q2
theorem de_meth {pl : Sem Bool} (kc : ClsD X.K X.mg c C) (hm : Meth X.K C m g) (G : FnR X.prog X.w X.K X.mg X.base CX0 k g (sp0 X.K X.mg fs)) (hr : Room k X.A) (he : PE X o (tE X.K X.mg W fe)) (ha : PA X (e :: es) (tA X.K X.mg W fa))
    (hst : starEach (e :: es) X.env = (false, eval e X.env) :: starEach es X.env := by rfl) (hpl : (backTo pos (starEach es X.env)).any (·.1) = false := by rfl)
    (ht : eval (.Call (.Attribute o m apos) (e :: es) [] pos) X.env = (do
      let ov ← eval o X.env
      standAt apos.atName
      let (f, first) ← holding [ov] (getMethod ov m pl)
      callWith pos f first (backTo pos (starEach (e :: es) X.env)) (backToKw pos (keywordEach [] X.env))) := by rfl) :
    PE X (.Call (.Attribute o m apos) (e :: es) [] pos) (tE X.K X.mg W (eMeth c m fs fe fa)) :=
  (pe_methG (pl := pl) he kc.cls hm G hr ha hst hpl ht).imp fun σ H Q ⟨T, F, ρ, sr, h⟩ => ⟨T, F, ρ, sr, (Post.bind h).imp fun v H1 ⟨d, F1, ρ1, sr1, r, h1⟩ => by
    unfold methRes at h1
    by_cases z : isIns c (some m) d = true
    · rw [if_pos z] at h1
      obtain ⟨a, C', dx, fs', ev, mm, ha', hl⟩ := isIns_rep z r
      obtain rfl := cls_same kc.mg mm
      subst ev
      refine ⟨a, dx, fs', rfl, sr1.sub _ _ ha', hl m rfl, T, F1, ρ1, sr1, (Post.bind' h1).imp fun vs H2 ⟨ds, F2, ρ2, _, s2, sr2, rl, h2⟩ => ?_⟩
      rw [List.append_nil]
      exact call0_fz sr2 (.cons (Rep.mono s2 r) rl) h2 _
    · rw [if_neg z] at h1
      exact h1.elim⟩
/-- o(e, ..) -/
theorem de_callO (kc : ClsD X.K X.mg c C) (co : StX.CallO X.K C g) (G : FnR X.prog X.w X.K X.mg X.base CX0 k g (sp0 X.K X.mg fs)) (hr : Room k X.A) (he : PE X o (tE X.K X.mg W fe)) (ha : PA X (e :: es) (tA X.K X.mg W fa))
    (ht : eval (.Call o (e :: es) [] pos) X.env = (do callWith pos (← eval o X.env) [] (backTo pos (starEach (e :: es) X.env)) (backToKw pos (keywordEach [] X.env))) := by rfl)
    (hst : starEach (e :: es) X.env = (false, eval e X.env) :: starEach es X.env := by rfl) (hpl : (backTo pos (starEach es X.env)).any (·.1) = false := by rfl) : PE X (.Call o (e :: es) [] pos) (tE X.K X.mg W (eCallO c fs fe fa)) :=
  (StX.pe_callO he co G hr (E := E0) pass0 ha ht hst hpl).imp fun σ H Q ⟨T, F, ρ, sr, h⟩ => ⟨T, F, ρ, sr, (Post.bind h).imp fun v H1 ⟨d, F1, ρ1, sr1, r, h1⟩ => by
    unfold calloRes at h1
    by_cases z : isIns c none d = true
    · rw [if_pos z] at h1
      obtain ⟨a, C', dx, fs', ev, mm, ha', _⟩ := isIns_rep z r
      obtain rfl := cls_same kc.mg mm
      subst ev
      refine ⟨a, rfl, T, F1, ρ1, sr1, (Post.bind' h1).imp fun vs H2 ⟨ds, F2, ρ2, _, s2, sr2, rl, h2⟩ => ⟨.inr ⟨dx, fs', sr2.sub _ _ (s2 _ _ ha')⟩, ?_⟩⟩
      exact call0_fz sr2 (.cons (Rep.mono s2 r) rl) h2 _
    · rw [if_neg z] at h1
      exact h1.elim⟩
/-- C.m(e, ..), m a classmethod -/
def cmRes (c : Str) (fs : EM D) (fa : EM (List D)) (d : D) : EM D := match d with
  | .cls c' => if c' = c then fa.bind fun ds => callRes0 fs (.cls c :: ds) else fun _ => .bad
  | _ => fun _ => .bad
def eCm (c : Str) (fs : EM D) (fe : EM D) (fa : EM (List D)) : EM D := fe.bind (cmRes c fs fa)
theorem de_cmeth {pl : Sem Bool} {mc : Value} (hc : X.mg c = some (.ref C)) (r : ClX.CRead X.K C mc) (k' : ClX.CMet X.K C mc m p' g) (G : FnR X.prog X.w X.K X.mg X.base CX0 k g (sp0 X.K X.mg fs)) (hr : Room k X.A) (he : PE X o (tE X.K X.mg W fe)) (ha : PA X (e :: es) (tA X.K X.mg W fa))
    (hst : starEach (e :: es) X.env = (false, eval e X.env) :: starEach es X.env := by rfl) (hpl : (backTo pos (starEach es X.env)).any (·.1) = false := by rfl)
    (ht : eval (.Call (.Attribute o m apos) (e :: es) [] pos) X.env = (do
      let ov ← eval o X.env
      standAt apos.atName
      let (f, first) ← holding [ov] (getMethod ov m pl)
      callWith pos f first (backTo pos (starEach (e :: es) X.env)) (backToKw pos (keywordEach [] X.env))) := by rfl) :
    PE X (.Call (.Attribute o m apos) (e :: es) [] pos) (tE X.K X.mg W (eCm c fs fe fa)) :=
  (ClX.pe_cmeth (pl := pl) he r k' G hr (E := E0) pass0 ha hst hpl ht).imp fun σ H Q ⟨T, F, ρ, sr, h⟩ => ⟨T, F, ρ, sr, (Post.bind h).imp fun v H1 ⟨d, F1, ρ1, sr1, rd, h1⟩ => by
    cases d with
    | cls c' =>
      unfold cmRes at h1
      dsimp only at h1
      by_cases z : c' = c
      · rw [if_pos z] at h1
        subst z
        have rd' := rd
        unfold Rep at rd
        obtain ⟨C', ev, mm⟩ := rd
        obtain rfl := cls_same hc mm
        subst ev
        exact ⟨rfl, T, F1, ρ1, sr1, (Post.bind' h1).imp fun vs H2 ⟨ds, F2, ρ2, _, s2, sr2, rl, h2⟩ => call0_fz sr2 (.cons (Rep.mono s2 rd') rl) h2 _⟩
      · rw [if_neg z] at h1
        exact h1.elim
    | _ => exact h1.elim⟩
end

/-! ### defs with defaults, with a star -/
def takeArgs (n : Nat) : R D → R D
  | .ok d as => .ok d (as.take n)
  | .ex c ns ds as => .ex c ns ds (as.take n)
  | .bad => .bad
/-- the def's last parameters are dds -/
def fDfl (dds : List D) (fs : EM D) : EM D := fun as => takeArgs as.length (fs (as ++ dds.map .fz))
section
variable {K : PySem.W.Frag} {mg : Str → Option Value} {T : Sit} {F H F' H' : Hp} {σ τ : St} {as bs : List Sl}
theorem getD_appL {as bs : List Sl} {j : Nat} (h : j < as.length) : (as ++ bs).getD j Sl.no = as.getD j Sl.no := by
  rw [List.getD_eq_getElem?_getD, List.getD_eq_getElem?_getD, List.getElem?_append_left h]
theorem getD_appR {as bs : List Sl} {j : Nat} (h : ¬ j < as.length) : (as ++ bs).getD j Sl.no = bs.getD (j - as.length) Sl.no := by
  rw [List.getD_eq_getElem?_getD, List.getD_eq_getElem?_getD, List.getElem?_append_right (by omega)]
theorem getD_take {as : List Sl} {j n : Nat} : (as.take n).getD j Sl.no = if j < n then as.getD j Sl.no else Sl.no := by
  rw [List.getD_eq_getElem?_getD, List.getD_eq_getElem?_getD, List.getElem?_take]
  by_cases h : j < n
  · rw [if_pos h, if_pos h]
  · rw [if_neg h, if_neg h]
    rfl
theorem SR.ext (h : SR K mg T F H σ as) {ds : List D} {vs : List V} (r : RepL K mg F ds vs) : SR K mg T F H (σ ++ vs.map some) (as ++ ds.map .fz) := by
  have own : ∀ j, ((as ++ ds.map Sl.fz).getD j Sl.no).own = true → (as.getD j Sl.no).own = true ∧ (σ ++ vs.map some)[j]? = σ[j]? := fun j o => by
    by_cases q : j < as.length
    · rw [getD_appL q] at o
      refine ⟨o, ?_⟩
      rw [List.getElem?_append_left (by rw [← h.len]; exact q)]
    · rw [getD_appR q, fz_own] at o
      cases o
  refine ⟨h.sub, h.pr, h.pf, fun j => ?_, fun i a o e => ?_, fun i j a o1 o2 e1 e2 => ?_, by rw [List.length_append, List.length_append, h.len, List.length_map, List.length_map, r.length]⟩
  · by_cases q : j < as.length
    · rw [getD_appL q, List.getElem?_append_left (by rw [← h.len]; exact q)]
      exact h.sl j
    · rw [getD_appR q, map_fz_getD, List.getElem?_append_right (by rw [← h.len]; omega), h.len]
      cases z : ds[j - σ.length]? with
      | none => trivial
      | some d =>
        obtain ⟨v, e, rv⟩ := r.get' z
        exact ⟨v, by rw [List.getElem?_map, e]; rfl, rv⟩
  · obtain ⟨o', e'⟩ := own i o
    exact h.po i a o' (by rw [← e']; exact e)
  · obtain ⟨o1', e1'⟩ := own i o1
    obtain ⟨o2', e2'⟩ := own j o2
    exact h.ap i j a o1' o2' (by rw [← e1']; exact e1) (by rw [← e2']; exact e2)
theorem SR.cut (h : SR K mg T F H (σ ++ τ) as) : SR K mg T F H σ (as.take σ.length) := by
  have own : ∀ j, ((as.take σ.length).getD j Sl.no).own = true → (as.getD j Sl.no).own = true ∧ (σ ++ τ)[j]? = σ[j]? := fun j o => by
    rw [getD_take] at o
    by_cases q : j < σ.length
    · rw [if_pos q] at o
      exact ⟨o, by rw [List.getElem?_append_left q]⟩
    · rw [if_neg q] at o
      cases o
  refine ⟨h.sub, h.pr, h.pf, fun j => ?_, fun i a o e => ?_, fun i j a o1 o2 e1 e2 => ?_, ?_⟩
  · rw [getD_take]
    by_cases q : j < σ.length
    · rw [if_pos q]
      have w := h.sl j
      rw [List.getElem?_append_left q] at w
      exact w
    · rw [if_neg q]
      trivial
  · obtain ⟨o', e'⟩ := own i o
    exact h.po i a o' (by rw [e']; exact e)
  · obtain ⟨o1', e1'⟩ := own i o1
    obtain ⟨o2', e2'⟩ := own j o2
    exact h.ap i j a o1' o2' (by rw [e1']; exact e1) (by rw [e2']; exact e2)
  · have := h.len
    rw [List.length_append] at this
    rw [List.length_take]
    omega
theorem dfl_ok {fs : EM D} {dds : List D} {dvs vs : List V} {Q : VK} {E : XK} (r : ∀ F, RepL K mg F dds dvs) (h : spG K mg (fDfl dds fs) vs H Q E) : spG K mg fs (vs ++ dvs) H Q E := by
  obtain ⟨T, F, as, sr, h⟩ := h
  refine ⟨T, F, as ++ dds.map .fz, by rw [List.map_append]; exact sr.ext (r F), ?_⟩
  unfold fDfl at h
  have hl : as.length = (vs.map some).length := sr.len
  cases z : fs (as ++ dds.map .fz) with
  | bad => rw [z] at h; exact h.elim
  | ok d as' =>
    rw [z, hl] at h
    exact fun v F' H' s sr' rv => h v F' H' s (by rw [List.map_append] at sr'; exact sr'.cut) rv
  | ex c ns es as' =>
    rw [z, hl] at h
    exact fun C dx F' H' s sr' m xr => h C dx F' H' s (by rw [List.map_append] at sr'; exact sr'.cut) m xr
theorem FnR.dfl {P : Program} {w : World} {base : Heap} {k : Nat} {f : Addr} {fd : FuncData} {ps : List Str} {fs : EM D} {dds : List D} {dvs : List V} {ds : List Value} (G : FnOk P w K mg base CX0 k f fd ps (sp0 K mg fs)) (hb : Binds K fd ps ds) (hd : Vals dvs ds) (r : ∀ F, RepL K mg F dds dvs) :
    FnR P w K mg base CX0 k f (sp0 K mg (fDfl dds fs)) := (G.raw hb hd).imp fun vs H Q E h => dfl_ok r h
theorem FnR.all {P : Program} {w : World} {base : Heap} {k : Nat} {f : Addr} {fd : FuncData} {ps : List Str} {fs : EM D} (G : FnOk P w K mg base CX0 k f fd ps (sp0 K mg fs)) (hb : Binds K fd ps []) :
    FnR P w K mg base CX0 k f (sp0 K mg fs) := (G.raw hb .nil).imp fun vs H Q E h => by rw [List.append_nil]; exact h
end
end DL

set_option Elab.async false
set_option linter.all false
set_option maxRecDepth 100000
set_option maxHeartbeats 4000000
/-! DR7: operators, comparisons, built-ins, subscripts by data. -/
namespace DL
open PySem PySem.Spec L2
open PyProof.Rows hiding St

section
variable {K : PySem.W.Frag} {mg : Str → Option Value} {F H : Hp} {d : D} {v : V}
theorem rep_lst {ds : List D} (r : Rep K mg F (.lst ds) v) : ∃ a vs, v = .ref a ∧ F a = some (.lst vs) ∧ RepL K mg F ds vs := by unfold Rep at r; exact r
theorem rep_tup {ds : List D} (r : Rep K mg F (.tup ds) v) : ∃ a vs, v = .ref a ∧ SqT K F a vs ∧ RepL K mg F ds vs := by unfold Rep at r; exact r
theorem rep_rd {ds : List D} (r : Rep K mg F (.rd ds) v) : ∃ a vs, v = .ref a ∧ SqL K F a vs ∧ RepL K mg F ds vs := by unfold Rep at r; exact r
theorem rep_ins {c : Str} {ns : List Str} {ds : List D} (r : Rep K mg F (.ins c ns ds) v) : ∃ a C dx fs, v = .ref a ∧ mg c = some (.ref C) ∧ F a = some (.ins C dx fs) ∧ fs.map (·.1) = ns ∧ RepL K mg F ds (fs.map (·.2)) := by unfold Rep at r; exact r
theorem mk_lst {a : Addr} {vs : List V} {ds : List D} (h : F a = some (.lst vs)) (r : RepL K mg F ds vs) : Rep K mg F (.lst ds) (.ref a) := by unfold Rep; exact ⟨a, vs, rfl, h, r⟩
theorem mk_tup {a : Addr} {vs : List V} {ds : List D} (h : SqT K F a vs) (r : RepL K mg F ds vs) : Rep K mg F (.tup ds) (.ref a) := by unfold Rep; exact ⟨a, vs, rfl, h, r⟩
/-- a new frozen list -/
theorem new_lst {vs : List V} {ds : List D} {p : Addr} (s : Same F H) (n : H p = none) (r : RepL K mg F ds vs) : Grow F H (upd F p (.lst vs)) (upd H p (.lst vs)) ∧ Rep K mg (upd F p (.lst vs)) (.lst ds) (.ref p) :=
  ⟨Grow.new s n, mk_lst upd_same (r.mono (Grow.new s n).f)⟩
theorem new_tup {vs : List V} {ds : List D} {p : Addr} (s : Same F H) (n : H p = none) (r : RepL K mg F ds vs) : Grow F H (upd F p (.tup vs)) (upd H p (.tup vs)) ∧ Rep K mg (upd F p (.tup vs)) (.tup ds) (.ref p) :=
  ⟨Grow.new s n, mk_tup (SqT.of upd_same) (r.mono (Grow.new s n).f)⟩
theorem repL_nil_iff {ds : List D} {vs : List V} (r : RepL K mg F ds vs) : vs = [] ↔ ds = [] := by
  have := r.length
  cases ds <;> cases vs <;> simp_all
end

/-! ### + - * // % ** -/
def gAdd : D → D → Option D
  | .int i, .int j => some (.int (i + j))
  | .lst a, .lst b => if a.length + b.length ≤ LIM then some (.lst (a ++ b)) else none
  | .tup a, .tup b => if a.length + b.length ≤ LIM then some (.tup (a ++ b)) else none
  | .str a, .str b => if a.length + b.length ≤ LIM then some (.str (a ++ b)) else none
  | _, _ => none
def gSub : D → D → Option D
  | .int i, .int j => some (.int (i - j))
  | _, _ => none
def gMul : D → D → Option D
  | .int i, .int j => if (-(2 ^ 64) < i ∧ i < 2 ^ 64) ∨ (-(2 ^ 64) < j ∧ j < 2 ^ 64) then some (.int (i * j)) else none
  | _, _ => none
def gMod : D → D → Option D
  | .int i, .int j => if 0 < j then some (.int (i % j)) else none
  | _, _ => none
def gDiv : D → D → Option D
  | .int i, .int j => if 0 < j ∧ j < 1073741824 then some (.int (i / j)) else none
  | _, _ => none
def gPow : D → D → Option D
  | .int i, .int j => if 0 ≤ j ∧ j ≤ 1000000 ∧ i.natAbs < 2 ^ 64 then some (.int (i ^ j.toNat)) else none
  | _, _ => none
def gNeg : D → Option D
  | .int i => some (.int (-i))
  | _ => none
def rAddA (K : PySem.W.Frag) : R2 := fun x y H Q => (∃ i j, x = .int i ∧ y = .int j ∧ Q (.int (i + j)) H) ∨ rCat x y H Q ∨ rCatA K x y H Q ∨ (∃ i j, x = .str i ∧ y = .str j ∧ i.length + j.length ≤ sizeLine ∧ Q (.str (i ++ j)) H)
theorem op_addA {X : Cx} : OpR X (binaryOp .Add) (rAddA X.K) := op_add.or (op_cat.or (op_catA.or op_add_str))
section
variable {K : PySem.W.Frag} {mg : Str → Option Value}
theorem od_add : OpD K mg (rAddA K) gAdd := by
  intro F H x y v w d Q s rx ry h k
  cases x <;> cases y <;> first | cases h | skip
  · rename_i i j
    exact .inl ⟨i, j, rep_int.mp rx, rep_int.mp ry, k _ F H (Grow.refl s) (rep_int.mpr rfl)⟩
  · rename_i a b
    have h : (if a.length + b.length ≤ LIM then some (D.str (a ++ b)) else none) = some d := h
    by_cases z : a.length + b.length ≤ LIM
    · rw [if_pos z] at h
      cases h
      exact .inr (.inr (.inr ⟨a, b, rep_str.mp rx, rep_str.mp ry, lim_line z, k _ F H (Grow.refl s) (rep_str.mpr rfl)⟩))
    · rw [if_neg z] at h
      cases h
  · rename_i a b
    have h : (if a.length + b.length ≤ LIM then some (D.lst (a ++ b)) else none) = some d := h
    by_cases z : a.length + b.length ≤ LIM
    · rw [if_pos z] at h
      cases h
      obtain ⟨p, xs, e1, q1, r1⟩ := rep_lst rx
      obtain ⟨p', ys, e2, q2, r2⟩ := rep_lst ry
      refine .inr (.inl ⟨p, p', xs, ys, e1, e2, s _ _ q1, s _ _ q2, lim_line (by rw [r1.length, r2.length]; exact z), fun t n => ?_⟩)
      obtain ⟨g, r⟩ := new_lst s n (r1.append r2)
      exact k _ _ _ g r
    · rw [if_neg z] at h
      cases h
  · rename_i a b
    have h : (if a.length + b.length ≤ LIM then some (D.tup (a ++ b)) else none) = some d := h
    by_cases z : a.length + b.length ≤ LIM
    · rw [if_pos z] at h
      cases h
      obtain ⟨p, xs, e1, q1, r1⟩ := rep_tup rx
      obtain ⟨p', ys, e2, q2, r2⟩ := rep_tup ry
      refine .inr (.inr (.inl ⟨p, p', xs, ys, e1, e2, Same.tupS s q1, Same.tupS s q2, lim_line (by rw [r1.length, r2.length]; exact z), fun e => ?_, fun _ e => ?_, fun _ _ t n => ?_⟩))
      · have : a = [] := (repL_nil_iff r1).mp e
        subst this
        exact k _ F H (Grow.refl s) (mk_tup q2 r2)
      · have : b = [] := (repL_nil_iff r2).mp e
        subst this
        exact k _ F H (Grow.refl s) (mk_tup q1 (by rw [List.append_nil]; exact r1))
      · obtain ⟨g, r⟩ := new_tup s n (r1.append r2)
        exact k _ _ _ g r
    · rw [if_neg z] at h
      cases h
theorem od_int {C : Int → Int → Prop} {f : Int → Int → Int} {g : D → D → Option D} (hg : ∀ x y d, g x y = some d → ∃ i j, x = .int i ∧ y = .int j ∧ C i j ∧ d = .int (f i j)) : OpD K mg (rI C fun i j => .int (f i j)) g := by
  intro F H x y v w d Q s rx ry h k
  obtain ⟨i, j, rfl, rfl, c, rfl⟩ := hg x y d h
  exact ⟨i, j, rep_int.mp rx, rep_int.mp ry, c, k _ F H (Grow.refl s) (rep_int.mpr rfl)⟩
theorem od_sub : OpD K mg (rI0 fun i j => .int (i - j)) gSub := by
  intro F H x y v w d Q s rx ry h k
  cases x <;> cases y <;> first | cases h | skip
  rename_i i j
  exact ⟨i, j, rep_int.mp rx, rep_int.mp ry, k _ F H (Grow.refl s) (rep_int.mpr rfl)⟩
theorem od_mul : OpD K mg (rI CMul fun i j => .int (i * j)) gMul := od_int fun x y d h => by
  cases x <;> cases y <;> first | cases h | skip
  rename_i i j
  have h : (if (-(2 ^ 64) < i ∧ i < 2 ^ 64) ∨ (-(2 ^ 64) < j ∧ j < 2 ^ 64) then some (D.int (i * j)) else none) = some d := h
  split at h
  · rename_i z
    cases h
    exact ⟨i, j, rfl, rfl, z, rfl⟩
  · cases h
theorem od_mod : OpD K mg (rI (fun _ j => 0 < j) fun i j => .int (i % j)) gMod := od_int fun x y d h => by
  cases x <;> cases y <;> first | cases h | skip
  rename_i i j
  have h : (if 0 < j then some (D.int (i % j)) else none) = some d := h
  split at h
  · rename_i z
    cases h
    exact ⟨i, j, rfl, rfl, z, rfl⟩
  · cases h
theorem od_div : OpD K mg (rI CDiv fun i j => .int (i / j)) gDiv := od_int fun x y d h => by
  cases x <;> cases y <;> first | cases h | skip
  rename_i i j
  have h : (if 0 < j ∧ j < 1073741824 then some (D.int (i / j)) else none) = some d := h
  split at h
  · rename_i z
    cases h
    exact ⟨i, j, rfl, rfl, z, rfl⟩
  · cases h
theorem od_pow : OpD K mg (rI CPow fun i j => .int (i ^ j.toNat)) gPow := od_int fun x y d h => by
  cases x <;> cases y <;> first | cases h | skip
  rename_i i j
  have h : (if 0 ≤ j ∧ j ≤ 1000000 ∧ i.natAbs < 2 ^ 64 then some (D.int (i ^ j.toNat)) else none) = some d := h
  split at h
  · rename_i z
    cases h
    exact ⟨i, j, rfl, rfl, z, rfl⟩
  · cases h
end
theorem de_neg {X : Cx} {W : WX} {a : Expr} {fa : EM D} {pos : Pos} (ha : PE X a (tE X.K X.mg W fa)) : PE X (.UnaryOp .USub a pos) (tE X.K X.mg W (fa.bind fun d => EM.opt (gNeg d))) :=
  (pe_un un_neg ha).imp fun σ H Q ⟨T, F, ρ, sr, h⟩ => ⟨T, F, ρ, sr, (Post.bind h).imp fun v H1 ⟨d, F1, ρ1, sr1, r, h1⟩ => by
    cases d <;> first | exact h1.elim | skip
    rename_i i
    exact ⟨i, rep_int.mp r, h1.ok_of sr1 (rep_int.mpr rfl)⟩⟩

/-! ### comparisons -/
def gCmp (p : Int → Int → Bool) : D → D → Option Bool
  | .int i, .int j => some (p i j)
  | _, _ => none
def gLt := gCmp fun i j => decide (i < j)
def gLe := gCmp fun i j => decide (i ≤ j)
def gGt := gCmp fun i j => decide (j < i)
def gGe := gCmp fun i j => decide (j ≤ i)
mutual
def toPy : D → Option PyData
  | .non => some .none
  | .bl b => some (.bool b)
  | .int i => some (.int i)
  | .str x => some (.str x)
  | .lst ds => (toPys ds).map .list
  | .tup ds => (toPys ds).map .tuple
  | _ => none
def toPys : List D → Option (List PyData)
  | [] => some []
  | d :: ds => match toPy d, toPys ds with
    | some x, some xs => some (x :: xs)
    | _, _ => none
end
/-- the scalars of which == is equality -/
def gEqS : D → D → Option Bool
  | .non, .non => some true | .non, .int _ => some false | .int _, .non => some false | .non, .bl _ => some false | .bl _, .non => some false | .non, .str _ => some false | .str _, .non => some false
  | .int i, .int j => some (decide (i = j)) | .bl i, .bl j => some (decide (i = j)) | .str i, .str j => some (decide (i = j))
  | .int _, .str _ => some false | .str _, .int _ => some false | .bl _, .str _ => some false | .str _, .bl _ => some false
  | _, _ => none
def gEqL (x y : D) : Option Bool := match toPy x, toPy y with
  | some a, some b => if PySem.SeqAt.shaped a = true ∧ PySem.SeqAt.shaped b = true then some (PyData.eqv a b) else none
  | _, _ => none
/-- == of data -/
def gEq (x y : D) : Option Bool := match gEqS x y with
  | some b => some b
  | none => gEqL x y
def gNe (x y : D) : Option Bool := (gEq x y).map (!·)
section
variable {K : PySem.W.Frag} {mg : Str → Option Value}
theorem od_cmp (p : Int → Int → Bool) : OpD K mg (rI0 fun i j => .bl (p i j)) (gB (gCmp p)) := by
  intro F H x y v w d Q s rx ry h k
  cases x <;> cases y <;> first | cases h | skip
  rename_i i j
  exact ⟨i, j, rep_int.mp rx, rep_int.mp ry, k _ F H (Grow.refl s) (rep_bl.mpr rfl)⟩
mutual
theorem dp_of {F : Hp} : ∀ {d : D} {p : PyData} {v : V}, toPy d = some p → Rep K mg F d v → Dp K F v p
  | .non, p, v, h, r => by
    cases h
    rw [rep_non.mp r]
    exact .non
  | .bl b, p, v, h, r => by
    cases h
    rw [rep_bl.mp r]
    exact .bl b
  | .int i, p, v, h, r => by
    cases h
    rw [rep_int.mp r]
    exact .int i
  | .str x, p, v, h, r => by
    cases h
    rw [rep_str.mp r]
    exact .str x
  | .lst ds, p, v, h, r => by
    unfold toPy at h
    obtain ⟨ps, h1, rfl⟩ := Option.map_eq_some_iff.mp h
    obtain ⟨a, vs, rfl, q, rl⟩ := rep_lst r
    exact .lst (SqL.of q) (dps_of h1 rl)
  | .tup ds, p, v, h, r => by
    unfold toPy at h
    obtain ⟨ps, h1, rfl⟩ := Option.map_eq_some_iff.mp h
    obtain ⟨a, vs, rfl, q, rl⟩ := rep_tup r
    exact .tup q (dps_of h1 rl)
  | .rd ds, p, v, h, r => by cases h
  | .ins c ns ds, p, v, h, r => by cases h
  | .cls c, p, v, h, r => by cases h
theorem dps_of {F : Hp} : ∀ {ds : List D} {ps : List PyData} {vs : List V}, toPys ds = some ps → RepL K mg F ds vs → DpAll K F vs ps
  | [], ps, vs, h, r => by
    cases h
    unfold RepL at r
    subst r
    exact .nil
  | d :: ds, ps, vs, h, r => by
    unfold toPys at h
    unfold RepL at r
    obtain ⟨v, vr, e, r1, r2⟩ := r
    subst e
    cases z1 : toPy d with
    | none => rw [z1] at h; cases h
    | some x =>
      cases z2 : toPys ds with
      | none => rw [z1, z2] at h; cases h
      | some xs =>
        rw [z1, z2] at h
        cases h
        exact .cons (dp_of z1 r1) (dps_of z2 r2)
end
end
theorem sqT_mono {K : PySem.W.Frag} {F H : Hp} (s : Same F H) {a : Addr} {xs : List V} (h : SqT K F a xs) : SqT K H a xs := Same.tupS s h
mutual
theorem Dp.mono {K : PySem.W.Frag} {F H : Hp} (s : Same F H) : ∀ {p : PyData} {v : V}, Dp K F v p → Dp K H v p
  | .none, _, h => by cases h; exact .non
  | .bool b, _, h => by cases h; exact .bl b
  | .int i, _, h => by cases h; exact .int i
  | .str x, _, h => by cases h; exact .str x
  | .list ds, _, h => by
    cases h with
    | lst q r => exact .lst (s.seq q) (DpAll.mono s r)
  | .tuple ds, _, h => by
    cases h with
    | tup q r => exact .tup (Same.tupS s q) (DpAll.mono s r)
  | .dict _, _, h => by cases h
theorem DpAll.mono {K : PySem.W.Frag} {F H : Hp} (s : Same F H) : ∀ {ps : List PyData} {vs : List V}, DpAll K F vs ps → DpAll K H vs ps
  | [], _, h => by cases h; exact .nil
  | p :: ps, _, h => by
    cases h with
    | cons a b => exact .cons (Dp.mono s a) (DpAll.mono s b)
end
section
variable {K : PySem.W.Frag} {mg : Str → Option Value}
theorem eqS_ok {F : Hp} {x y : D} {v w : V} {b : Bool} (h : gEqS x y = some b) (rx : Rep K mg F x v) (ry : Rep K mg F y w) : scal v w = true ∧ decide (v = w) = b := by
  cases x <;> cases y <;> first | cases h | skip
  all_goals
    first
    | rw [rep_non.mp rx]
    | rw [rep_bl.mp rx]
    | rw [rep_int.mp rx]
    | rw [rep_str.mp rx]
  all_goals
    first
    | rw [rep_non.mp ry]
    | rw [rep_bl.mp ry]
    | rw [rep_int.mp ry]
    | rw [rep_str.mp ry]
  all_goals (refine ⟨rfl, ?_⟩; first | rfl | simp)
def rEqA (K : PySem.W.Frag) : R2 := fun x y H Q => rEq x y H Q ∨ rEqD K x y H Q
def rNeA (K : PySem.W.Frag) : R2 := fun x y H Q => rNe x y H Q ∨ rNeD K x y H Q
theorem op_eqA {X : Cx} (hu : X.A.units + 64 < cLine) : OpR X (compareOp .Eq) (rEqA X.K) := op_eq.or (op_eqD hu)
theorem op_neA {X : Cx} (hu : X.A.units + 64 < cLine) : OpR X (compareOp .NotEq) (rNeA X.K) := op_ne.or (op_neD hu)
theorem eqL_ok {x y : D} {b : Bool} (h : gEqL x y = some b) : ∃ p q, toPy x = some p ∧ toPy y = some q ∧ PySem.SeqAt.shaped p = true ∧ PySem.SeqAt.shaped q = true ∧ b = PyData.eqv p q := by
  unfold gEqL at h
  cases z1 : toPy x with
  | none => rw [z1] at h; cases h
  | some p =>
    cases z2 : toPy y with
    | none => rw [z1, z2] at h; cases h
    | some q =>
      rw [z1, z2] at h
      dsimp only at h
      split at h
      · rename_i z
        cases h
        exact ⟨p, q, rfl, rfl, z.1, z.2, rfl⟩
      · cases h
theorem od_eq : OpD K mg (rEqA K) (gB gEq) := by
  intro F H x y v w d Q s rx ry h k
  obtain ⟨b, hb, rfl⟩ := Option.map_eq_some_iff.mp (show (gEq x y).map D.bl = some d from h)
  unfold gEq at hb
  cases z : gEqS x y with
  | some b' =>
    rw [z] at hb
    cases hb
    obtain ⟨h1, h2⟩ := eqS_ok z rx ry
    exact .inl ⟨h1, by rw [h2]; exact k _ F H (Grow.refl s) (rep_bl.mpr rfl)⟩
  | none =>
    rw [z] at hb
    obtain ⟨p, q, h1, h2, h3, h4, h5⟩ := eqL_ok hb
    exact .inr ⟨p, q, Dp.mono s (dp_of h1 rx), Dp.mono s (dp_of h2 ry), h3, h4, by rw [← h5]; exact k _ F H (Grow.refl s) (rep_bl.mpr rfl)⟩
theorem od_ne : OpD K mg (rNeA K) (gB gNe) := by
  intro F H x y v w d Q s rx ry h k
  obtain ⟨b', hb', rfl⟩ := Option.map_eq_some_iff.mp (show (gNe x y).map D.bl = some d from h)
  obtain ⟨b, hb, rfl⟩ := Option.map_eq_some_iff.mp (show (gEq x y).map (!·) = some b' from hb')
  unfold gEq at hb
  cases z : gEqS x y with
  | some b' =>
    rw [z] at hb
    cases hb
    obtain ⟨h1, h2⟩ := eqS_ok z rx ry
    exact .inl ⟨h1, by rw [h2]; exact k _ F H (Grow.refl s) (rep_bl.mpr rfl)⟩
  | none =>
    rw [z] at hb
    obtain ⟨p, q, h1, h2, h3, h4, h5⟩ := eqL_ok hb
    exact .inr ⟨p, q, Dp.mono s (dp_of h1 rx), Dp.mono s (dp_of h2 ry), h3, h4, by rw [← h5]; exact k _ F H (Grow.refl s) (rep_bl.mpr rfl)⟩
end
/-! ### < of tuples and lists -/
def gLtL (x y : D) : Option Bool := match toPy x, toPy y with
  | some (.tuple a), some (.tuple b) => if PySem.W.alike (.tuple a) (.tuple b) = true ∧ (PyData.tuple a).depth ≤ 64 then some (PySem.W.dataLt (.tuple a) (.tuple b)) else none
  | _, _ => none
def rLtD (K : PySem.W.Frag) : R2 := fun x y H Q => ∃ d e, Dp K H x d ∧ Dp K H y e ∧ PySem.W.alike d e = true ∧ d ≠ .none ∧ d.depth ≤ 64 ∧ Q (.bl (PySem.W.dataLt d e)) H
theorem op_ltD {X : Cx} (hu : X.A.units + 64 < cLine) : OpR X (compareOp .Lt) (rLtD X.K) := by
  intro pins s σ H x y v u Q I rx ry h
  obtain ⟨d, e, hd, he, sd, hn, hde, q⟩ := h
  obtain ⟨as, r1⟩ := Dp.reads I d x v hd rx
  obtain ⟨bs, r2⟩ := Dp.reads I e y u he ry
  have hm : min d.depth e.depth ≤ d.depth := Nat.min_le_left _ _
  exact PySem.W.rcLt_alike d e X.A s v u as bs r1 r2 sd hn (by omega) X.prog X.w X.xe _ ⟨.bl _, H, I, rfl, q⟩
theorem od_ltD {K : PySem.W.Frag} {mg : Str → Option Value} : OpD K mg (rLtD K) (gB gLtL) := by
  intro F H x y v w d Q s rx ry h k
  obtain ⟨b, hb, rfl⟩ := Option.map_eq_some_iff.mp (show (gLtL x y).map D.bl = some d from h)
  unfold gLtL at hb
  split at hb
  · rename_i a c h1 h2
    split at hb
    · rename_i z
      cases hb
      exact ⟨_, _, Dp.mono s (dp_of h1 rx), Dp.mono s (dp_of h2 ry), z.1, (fun q => nomatch q), z.2, k _ F H (Grow.refl s) (rep_bl.mpr rfl)⟩
    · cases hb
  · cases hb

/-! ### in, not in: texts in a list or tuple of texts -/
def toStrs : List D → Option (List Str)
  | [] => some []
  | .str x :: ds => (toStrs ds).map (x :: ·)
  | _ => none
def gIn : D → D → Option Bool
  | .str x, .tup ds => (toStrs ds).map fun xs => decide (x ∈ xs)
  | .str x, .lst ds => (toStrs ds).map fun xs => decide (x ∈ xs)
  | _, _ => none
def gNotIn (x y : D) : Option Bool := (gIn x y).map (!·)
section
variable {K : PySem.W.Frag} {mg : Str → Option Value}
theorem strs_rep {F : Hp} : ∀ {ds : List D} {xs : List Str} {vs : List V}, toStrs ds = some xs → RepL K mg F ds vs → vs = xs.map V.str
  | [], xs, vs, h, r => by
    cases h
    unfold RepL at r
    exact r
  | d :: ds, xs, vs, h, r => by
    cases d with
    | str x =>
      unfold toStrs at h
      obtain ⟨t, h1, rfl⟩ := Option.map_eq_some_iff.mp h
      unfold RepL at r
      obtain ⟨v, vr, e, r1, r2⟩ := r
      rw [e, rep_str.mp r1, strs_rep h1 r2]
      rfl
    | _ => cases h
theorem inV_strs {x : Str} : ∀ {xs : List Str}, inV (.str x) (xs.map V.str) = decide (x ∈ xs)
  | [] => by simp [inV]
  | y :: xs => by
    show (eqV (.str y) (.str x) || inV (.str x) (xs.map V.str)) = _
    rw [inV_strs]
    show ((y == x) || decide (x ∈ xs)) = _
    by_cases e : y = x
    · subst e
      simp
    · have : (y == x) = false := by simpa using e
      rw [this]
      simp [List.mem_cons, Ne.symm e]
theorem od_in : OpD K mg (rIn K false) (gB gIn) := by
  intro F H x y v w d Q s rx ry h k
  obtain ⟨b, hb, rfl⟩ := Option.map_eq_some_iff.mp (show (gIn x y).map D.bl = some d from h)
  cases x with
  | str x =>
    cases y with
    | tup ds =>
      obtain ⟨xs, h1, rfl⟩ := Option.map_eq_some_iff.mp (show (toStrs ds).map (fun xs => decide (x ∈ xs)) = some b from hb)
      obtain ⟨a, vs, e, q, rl⟩ := rep_tup ry
      rw [strs_rep h1 rl] at q
      refine ⟨a, _, e, .inr (Same.tupS s q), by rw [rep_str.mp rx]; rfl, flat_strs xs, ?_⟩
      rw [rep_str.mp rx, inV_strs]
      exact k _ F H (Grow.refl s) (rep_bl.mpr rfl)
    | lst ds =>
      obtain ⟨xs, h1, rfl⟩ := Option.map_eq_some_iff.mp (show (toStrs ds).map (fun xs => decide (x ∈ xs)) = some b from hb)
      obtain ⟨a, vs, e, q, rl⟩ := rep_lst ry
      rw [strs_rep h1 rl] at q
      refine ⟨a, _, e, .inl (SqL.of (s _ _ q)), by rw [rep_str.mp rx]; rfl, flat_strs xs, ?_⟩
      rw [rep_str.mp rx, inV_strs]
      exact k _ F H (Grow.refl s) (rep_bl.mpr rfl)
    | _ => cases hb
  | _ => cases hb
theorem od_notIn : OpD K mg (rIn K true) (gB gNotIn) := by
  intro F H x y v w d Q s rx ry h k
  obtain ⟨b', hb', rfl⟩ := Option.map_eq_some_iff.mp (show (gNotIn x y).map D.bl = some d from h)
  obtain ⟨b, hb, rfl⟩ := Option.map_eq_some_iff.mp (show (gIn x y).map (!·) = some b' from hb')
  cases x with
  | str x =>
    cases y with
    | tup ds =>
      obtain ⟨xs, h1, rfl⟩ := Option.map_eq_some_iff.mp (show (toStrs ds).map (fun xs => decide (x ∈ xs)) = some b from hb)
      obtain ⟨a, vs, e, q, rl⟩ := rep_tup ry
      rw [strs_rep h1 rl] at q
      refine ⟨a, _, e, .inr (Same.tupS s q), by rw [rep_str.mp rx]; rfl, flat_strs xs, ?_⟩
      rw [rep_str.mp rx, inV_strs]
      exact k _ F H (Grow.refl s) (rep_bl.mpr rfl)
    | lst ds =>
      obtain ⟨xs, h1, rfl⟩ := Option.map_eq_some_iff.mp (show (toStrs ds).map (fun xs => decide (x ∈ xs)) = some b from hb)
      obtain ⟨a, vs, e, q, rl⟩ := rep_lst ry
      rw [strs_rep h1 rl] at q
      refine ⟨a, _, e, .inl (SqL.of (s _ _ q)), by rw [rep_str.mp rx]; rfl, flat_strs xs, ?_⟩
      rw [rep_str.mp rx, inV_strs]
      exact k _ F H (Grow.refl s) (rep_bl.mpr rfl)
    | _ => cases hb
  | _ => cases hb
end

/-! ### subscripts -/
def gIx : D → D → Option D
  | .lst ds, .int i => atI ds i
  | .tup ds, .int i => atI ds i
  | .rd ds, .int i => atI ds i
  | _, _ => none
theorem atI_rep {K : PySem.W.Frag} {mg : Str → Option Value} {F : Hp} {ds : List D} {vs : List V} {i : Int} {d : D} (r : RepL K mg F ds vs) (h : atI ds i = some d) : ∃ v, atI vs i = some v ∧ Rep K mg F d v := by
  unfold atI at h ⊢
  rw [r.length]
  cases z : ixN ds.length i with
  | none => rw [z] at h; cases h
  | some j =>
    rw [z] at h
    obtain ⟨v, e, rv⟩ := r.get' (show ds[j]? = some d from h)
    exact ⟨v, e, rv⟩
theorem od_ix {K : PySem.W.Frag} {mg : Str → Option Value} : OpD K mg (rIx K) gIx := by
  intro F H x y v w d Q s rx ry h k
  cases y with
  | int i =>
    cases x with
    | lst ds =>
      obtain ⟨a, vs, e, q, rl⟩ := rep_lst rx
      obtain ⟨u, hu, ru⟩ := atI_rep rl h
      exact .inl ⟨a, vs, i, u, e, rep_int.mp ry, SqL.of (s _ _ q), hu, k _ F H (Grow.refl s) ru⟩
    | rd ds =>
      obtain ⟨a, vs, e, q, rl⟩ := rep_rd rx
      obtain ⟨u, hu, ru⟩ := atI_rep rl h
      exact .inl ⟨a, vs, i, u, e, rep_int.mp ry, s.seq q, hu, k _ F H (Grow.refl s) ru⟩
    | tup ds =>
      obtain ⟨a, vs, e, q, rl⟩ := rep_tup rx
      obtain ⟨u, hu, ru⟩ := atI_rep rl h
      exact .inr (.inl ⟨a, vs, i, u, e, rep_int.mp ry, Same.tupS s q, hu, k _ F H (Grow.refl s) ru⟩)
    | _ => cases h
  | _ => cases x <;> cases h
/-- x[i], x a name: what stands there is lent -/
def sqSl : Sl → Option (List D)
  | .fz (.lst ds) => some ds
  | .fz (.tup ds) => some ds
  | .fz (.rd ds) => some ds
  | .ow ds => some ds
  | .io ds => some ds
  | _ => none
def eIxV (j : Nat) (fi : EM D) : EM D := fun ρ => match sqSl (ρ.getD j .no) with
  | none => .bad
  | some _ => (fi ρ).bind fun i ρ1 => match i, sqSl (ρ1.getD j .no) with
    | .int k, some ds => EM.opt (atI ds k) ρ1
    | _, _ => .bad
theorem sq_at {K : PySem.W.Frag} {mg : Str → Option Value} {T : Sit} {F H : Hp} {σ : St} {ρ : List Sl} (sr : SR K mg T F H σ ρ) {j : Nat} {ds : List D} (e : sqSl (ρ.getD j .no) = some ds) :
    ∃ a vs, σ[j]? = some (some (.ref a)) ∧ (SqL K H a vs ∨ SqT K H a vs) ∧ RepL K mg F ds vs := by
  have w := sr.sl j
  cases z : ρ.getD j .no with
  | fz d =>
    rw [z] at w e
    obtain ⟨v, e1, r⟩ := w
    cases d with
    | lst xs =>
      cases e
      obtain ⟨a, vs, ev, q, rl⟩ := rep_lst r
      subst ev
      exact ⟨a, vs, e1, .inl (SqL.of (sr.sub _ _ q)), rl⟩
    | rd xs =>
      cases e
      obtain ⟨a, vs, ev, q, rl⟩ := rep_rd r
      subst ev
      exact ⟨a, vs, e1, .inl (sr.sub.seq q), rl⟩
    | tup xs =>
      cases e
      obtain ⟨a, vs, ev, q, rl⟩ := rep_tup r
      subst ev
      exact ⟨a, vs, e1, .inr (Same.tupS sr.sub q), rl⟩
    | _ => cases e
  | ow xs =>
    rw [z] at w e
    cases e
    obtain ⟨a, vs, e1, n, q, r⟩ := w
    exact ⟨a, vs, e1, .inl (SqL.of q), r⟩
  | io xs =>
    rw [z] at w e
    cases e
    obtain ⟨e1, n, vs, q, r⟩ := w
    exact ⟨_, vs, e1, .inl (SqL.of q), r⟩
  | no => rw [z] at e; cases e
  | oi c ns xs => rw [z] at e; cases e
section
variable {X : Cx} {W : WX} {a b : Expr} {fi : EM D} {pos : Pos}
theorem de_ixV (j : Nat) (ha : PE X a (tVar j)) (hb : PE X b (tE X.K X.mg W fi)) (hs : PlainIx b := by exact fun _ _ => rfl) : PE X (.Subscript a b pos) (tE X.K X.mg W (eIxV j fi)) :=
  (pe_ix ix_seq ha hb hs).imp fun σ H Q ⟨T, F, ρ, sr, h⟩ => by
    unfold eIxV at h
    cases z : sqSl (ρ.getD j .no) with
    | none => rw [z] at h; exact h.elim
    | some ds0 =>
      rw [z] at h
      obtain ⟨a, vs0, e1, _⟩ := sq_at sr z
      refine ⟨.ref a, e1, T, F, ρ, sr, (Post.bind h).imp fun v H1 ⟨i, F1, ρ1, sr1, ri, h1⟩ => ?_⟩
      split at h1
      · rename_i k ds z1
        obtain ⟨a', vs, e2, q, rl⟩ := sq_at sr1 z1
        rw [e1] at e2
        cases e2
        unfold EM.opt at h1
        cases z2 : atI ds k with
        | none => rw [z2] at h1; exact h1.elim
        | some d =>
          rw [z2] at h1
          obtain ⟨u, hu, ru⟩ := atI_rep rl z2
          rcases q with q | q
          · exact .inl ⟨a, vs, k, u, rfl, rep_int.mp ri, q, hu, h1.ok_of sr1 ru⟩
          · exact .inr (.inl ⟨a, vs, k, u, rfl, rep_int.mp ri, q, hu, h1.ok_of sr1 ru⟩)
      · exact h1.elim
end
/-! ### a dict of the module with text keys -/
def TabD (K : PySem.W.Frag) (mg : Str → Option Value) (w : World) (x : Str) (t : List (Str × D)) : Prop := ∃ p, mg x = some (.ref p) ∧ ∀ z d, t.lookup z = some d → ∃ v, KDct K w p z v ∧ ∀ F, Rep K mg F d v
def eTab (t : List (Str × D)) (fi : EM D) : EM D := fi.bind fun i => match i with
  | .str z => EM.opt (t.lookup z)
  | _ => fun _ => .bad
theorem de_tab {X : Cx} {W : WX} {x : Str} {p pos : Pos} {t : List (Str × D)} {b : Expr} {fi : EM D} (k : TabD X.K X.mg X.w x t) (hg : Gl X x) (hb : PE X b (tE X.K X.mg W fi)) (hs : PlainIx b := by exact fun _ _ => rfl) (hd : (x == ("__debug__" : Str)) = false := by decide) :
    PE X (.Subscript (.Name x p) b pos) (tE X.K X.mg W (eTab t fi)) := by
  obtain ⟨q, hm, hk⟩ := k
  refine (pe_ix ix_kdict (pe_glob (v := .ref q) hg hm rfl hd) hb hs).imp fun σ H Q ⟨T, F, ρ, sr, h⟩ => ?_
  refine ⟨T, F, ρ, sr, (Post.bind h).imp fun v H1 ⟨i, F1, ρ1, sr1, ri, h1⟩ => ?_⟩
  cases i with
  | str z =>
    dsimp only [EM.opt] at h1
    cases z1 : t.lookup z with
    | none => rw [z1] at h1; exact h1.elim
    | some d =>
      rw [z1] at h1
      obtain ⟨v', h2, h3⟩ := hk z d z1
      exact ⟨q, z, v', rfl, rep_str.mp ri, h2, h1.ok_of sr1 (h3 F1)⟩
  | _ => exact h1.elim
end DL

set_option Elab.async false
set_option linter.all false
set_option maxRecDepth 100000
set_option maxHeartbeats 4000000
/-! DR8: builtins called, isinstance, index, slices, names bound to comprehensions. -/
namespace DL
open PySem PySem.Spec L2
open PyProof.Rows hiding St

/-! ### builtins -/
def CallD (K : PySem.W.Frag) (mg : Str → Option Value) (r : List V → Hp → VK → Prop) (g : List D → Option D) : Prop :=
  ∀ (F H : Hp) (ds : List D) (vs : List V) (d : D) (Q : VK), Same F H → RepL K mg F ds vs → g ds = some d → (∀ u F' H', Grow F H F' H' → Rep K mg F' d u → Q u H') → r vs H Q
def eBlt (g : List D → Option D) (fa : EM (List D)) : EM D := fa.bind fun ds => EM.opt (g ds)
section
variable {X : Cx} {W : WX} {x : Str} {p pos : Pos} {e : Expr} {es : List Expr} {fa : EM (List D)} {id T : String} {r : List V → Hp → VK → Prop} {g : List D → Option D}
theorem blt_go {K : PySem.W.Frag} {mg : Str → Option Value} (hg : CallD K mg r g) (σ : St) (H : Hp) (Q : VK) (h : tE K mg W (eBlt g fa) σ H Q) : tCB r (tA K mg W fa) σ H Q := by
  obtain ⟨T, F, ρ, sr, h⟩ := h
  refine ⟨T, F, ρ, sr, (Post.bind h).imp fun vs H1 ⟨ds, F1, ρ1, sr1, rv, h1⟩ => ?_⟩
  unfold EM.opt at h1
  cases z : g ds with
  | none => rw [z] at h1; exact h1.elim
  | some d =>
    rw [z] at h1
    exact hg F1 H1 ds vs d Q sr1.sub rv z fun u F' H' gr ru => h1.ok_grow sr1 gr ru
theorem de_blt (hc : CallR X (.builtin id) r) (hD : CallD X.K X.mg r g) (hg : Gl X x) (hm : X.mg x = none) (hv : bootBuiltins x = some (.builtin id)) (ha : PA X (e :: es) (tA X.K X.mg W fa)) (hn : x ≠ "__name__" := by decide) (hdb : (x == ("__debug__" : Str)) = false := by decide)
    (he : starEach (e :: es) X.env = (false, eval e X.env) :: starEach es X.env := by rfl) (hpl : (backTo pos (starEach es X.env)).any (·.1) = false := by rfl) : PE X (.Call (.Name x p) (e :: es) [] pos) (tE X.K X.mg W (eBlt g fa)) :=
  (pe_callB hc hg hm hv ha hn hdb he hpl).imp (blt_go hD)
theorem de_ty (hc : CallR X (.type T) r) (hD : CallD X.K X.mg r g) (hg : Gl X x) (hm : X.mg x = none) (hv : bootBuiltins x = some (.type T)) (ha : PA X (e :: es) (tA X.K X.mg W fa)) (hn : x ≠ "__name__" := by decide) (hdb : (x == ("__debug__" : Str)) = false := by decide)
    (he : starEach (e :: es) X.env = (false, eval e X.env) :: starEach es X.env := by rfl) (hpl : (backTo pos (starEach es X.env)).any (·.1) = false := by rfl) : PE X (.Call (.Name x p) (e :: es) [] pos) (tE X.K X.mg W (eBlt g fa)) :=
  (pe_callTy hc hg hm hv ha hn hdb he hpl).imp (blt_go hD)
end
theorem RepL.one {K : PySem.W.Frag} {mg : Str → Option Value} {F : Hp} {d : D} {vs : List V} (h : RepL K mg F [d] vs) : ∃ v, vs = [v] ∧ Rep K mg F d v := by
  unfold RepL at h
  obtain ⟨v, r, e, h1, h2⟩ := h
  unfold RepL at h2
  subst h2
  exact ⟨v, e, h1⟩
/-- len -/
def gLen : List D → Option D
  | [.lst xs] => some (.int xs.length)
  | [.rd xs] => some (.int xs.length)
  | [.tup xs] => some (.int xs.length)
  | _ => none
def rLen (K : PySem.W.Frag) : List V → Hp → VK → Prop := fun xs H Q => ∃ p ys, xs = [.ref p] ∧ (SqL K H p ys ∨ SqT K H p ys) ∧ Q (.int ys.length) H
theorem cd_len {K : PySem.W.Frag} {mg : Str → Option Value} : CallD K mg (rLen K) gLen := by
  intro F H ds vs d Q s r h k
  unfold gLen at h
  split at h
  · rename_i xs
    cases h
    obtain ⟨v, ev, rv⟩ := r.one
    obtain ⟨a, ws, e2, q, rl⟩ := rep_lst rv
    subst ev e2
    exact ⟨a, ws, rfl, .inl (SqL.of (s _ _ q)), by rw [rl.length]; exact k _ F H (Grow.refl s) (rep_int.mpr rfl)⟩
  · rename_i xs
    cases h
    obtain ⟨v, ev, rv⟩ := r.one
    obtain ⟨a, ws, e2, q, rl⟩ := rep_rd rv
    subst ev e2
    exact ⟨a, ws, rfl, .inl (s.seq q), by rw [rl.length]; exact k _ F H (Grow.refl s) (rep_int.mpr rfl)⟩
  · rename_i xs
    cases h
    obtain ⟨v, ev, rv⟩ := r.one
    obtain ⟨a, ws, e2, q, rl⟩ := rep_tup rv
    subst ev e2
    exact ⟨a, ws, rfl, .inr (Same.tupS s q), by rw [rl.length]; exact k _ F H (Grow.refl s) (rep_int.mpr rfl)⟩
  · cases h
/-- any([..]) of truths -/
def bools : List D → Option (List Bool)
  | [] => some []
  | .bl b :: ds => (bools ds).map (b :: ·)
  | _ :: _ => none
theorem bools_rep {K : PySem.W.Frag} {mg : Str → Option Value} {F : Hp} : ∀ {ds : List D} {vs : List V} {bs : List Bool}, bools ds = some bs → RepL K mg F ds vs → vs = bs.map V.bl
  | [], vs, bs, h, r => by
    cases h
    unfold RepL at r
    exact r
  | d :: ds, vs, bs, h, r => by
    unfold RepL at r
    obtain ⟨v, vs', e, r1, r2⟩ := r
    cases d with
    | bl b =>
      obtain ⟨bs', h1, h2⟩ := Option.map_eq_some_iff.mp (show (bools ds).map (b :: ·) = some bs from h)
      subst h2
      rw [e, List.map_cons, ← bools_rep h1 r2, rep_bl.mp r1]
    | _ => cases h
def gAny : List D → Option D
  | [.lst xs] => (bools xs).map fun bs => .bl (bs.any id)
  | _ => none
theorem cd_any {K : PySem.W.Frag} {mg : Str → Option Value} : CallD K mg (rAny K) gAny := by
  intro F H ds vs d Q s r h k
  unfold gAny at h
  split at h
  · rename_i xs
    obtain ⟨bs, h1, h2⟩ := Option.map_eq_some_iff.mp (show (bools xs).map (fun bs => D.bl (bs.any id)) = some d from h)
    subst h2
    obtain ⟨v, ev, rv⟩ := r.one
    obtain ⟨a, ws, e2, q, rl⟩ := rep_lst rv
    subst ev e2
    have e := bools_rep h1 rl
    subst e
    exact ⟨a, bs, rfl, SqL.of (s _ _ q), k _ F H (Grow.refl s) (rep_bl.mpr rfl)⟩
  · cases h
/-- max([..]) of ints -/
def intsD : List D → Option (List Int)
  | [] => some []
  | .int b :: ds => (intsD ds).map (b :: ·)
  | _ :: _ => none
theorem intsD_rep {K : PySem.W.Frag} {mg : Str → Option Value} {F : Hp} : ∀ {ds : List D} {vs : List V} {bs : List Int}, intsD ds = some bs → RepL K mg F ds vs → vs = bs.map V.int
  | [], vs, bs, h, r => by
    cases h
    unfold RepL at r
    exact r
  | d :: ds, vs, bs, h, r => by
    unfold RepL at r
    obtain ⟨v, vs', e, r1, r2⟩ := r
    cases d with
    | int b =>
      obtain ⟨bs', h1, h2⟩ := Option.map_eq_some_iff.mp (show (intsD ds).map (b :: ·) = some bs from h)
      subst h2
      rw [e, List.map_cons, ← intsD_rep h1 r2, rep_int.mp r1]
    | _ => cases h
def maxI : Int → List Int → Int
  | m, [] => m
  | m, x :: xs => maxI (if m < x then x else m) xs
theorem maxI_le : ∀ {xs : List Int} {m : Int}, m ≤ maxI m xs ∧ ∀ x ∈ xs, x ≤ maxI m xs
  | [], m => ⟨Int.le_refl _, fun x h => by cases h⟩
  | y :: ys, m => by
    obtain ⟨h1, h2⟩ := maxI_le (xs := ys) (m := if m < y then y else m)
    refine ⟨?_, fun x h => ?_⟩
    · show m ≤ maxI (if m < y then y else m) ys
      refine Int.le_trans ?_ h1
      split <;> omega
    · rcases List.mem_cons.mp h with e | h
      · subst e
        refine Int.le_trans ?_ h1
        split <;> omega
      · exact h2 x h
theorem maxI_mem : ∀ {xs : List Int} {m : Int}, maxI m xs = m ∨ maxI m xs ∈ xs
  | [], m => .inl rfl
  | y :: ys, m => by
    rcases maxI_mem (xs := ys) (m := if m < y then y else m) with h | h
    · by_cases z : m < y
      · rw [if_pos z] at h
        right
        show maxI (if m < y then y else m) ys ∈ _
        rw [if_pos z, h]
        exact List.mem_cons_self ..
      · rw [if_neg z] at h
        left
        show maxI (if m < y then y else m) ys = m
        rw [if_neg z, h]
    · exact .inr (List.mem_cons_of_mem _ h)
def gMax : List D → Option D
  | [.lst xs] => (intsD xs).bind fun bs => match bs with
    | [] => none
    | b :: bs => some (.int (maxI b bs))
  | _ => none
theorem cd_max {K : PySem.W.Frag} {mg : Str → Option Value} : CallD K mg (rMax K) gMax := by
  intro F H ds vs d Q s r h k
  unfold gMax at h
  split at h
  · rename_i xs
    obtain ⟨bs, h1, h2⟩ := Option.bind_eq_some_iff.mp (show (intsD xs).bind (fun bs => match bs with
      | [] => none
      | b :: bs => some (.int (maxI b bs))) = some d from h)
    cases bs with
    | nil => cases h2
    | cons b bs =>
      cases h2
      obtain ⟨v, ev, rv⟩ := r.one
      obtain ⟨a, ws, e2, q, rl⟩ := rep_lst rv
      subst ev e2
      have e := intsD_rep h1 rl
      subst e
      refine ⟨a, b :: bs, rfl, SqL.of (s _ _ q), Nat.succ_pos _, fun m hm hy => ?_⟩
      have e : m = maxI b bs := by
        obtain ⟨l1, l2⟩ := maxI_le (xs := bs) (m := b)
        have u : maxI b bs ≤ m := by
          rcases maxI_mem (xs := bs) (m := b) with z | z
          · rw [z]; exact hy _ (List.mem_cons_self ..)
          · exact hy _ (List.mem_cons_of_mem _ z)
        have l : m ≤ maxI b bs := by
          rcases List.mem_cons.mp hm with z | z
          · rw [z]; exact l1
          · exact l2 _ z
        omega
      rw [e]
      exact k _ F H (Grow.refl s) (rep_int.mpr rfl)
  · cases h
/-- int(x) -/
def gInt : List D → Option D
  | [.int i] => some (.int i)
  | [.bl b] => some (.int (if b then 1 else 0))
  | _ => none
def rInt : List V → Hp → VK → Prop := fun xs H Q => (∃ i, xs = [.int i] ∧ Q (.int i) H) ∨ ∃ k, xs = [.bl k] ∧ Q (.int (if k then 1 else 0)) H
theorem cd_int {K : PySem.W.Frag} {mg : Str → Option Value} : CallD K mg rInt gInt := by
  intro F H ds vs d Q s r h k
  unfold gInt at h
  split at h
  · rename_i i
    cases h
    obtain ⟨v, ev, rv⟩ := r.one
    exact .inl ⟨i, by rw [ev, rep_int.mp rv], k _ F H (Grow.refl s) (rep_int.mpr rfl)⟩
  · rename_i i
    cases h
    obtain ⟨v, ev, rv⟩ := r.one
    exact .inr ⟨i, by rw [ev, rep_bl.mp rv], k _ F H (Grow.refl s) (rep_int.mpr rfl)⟩
  · cases h
/-- tuple(xs) -/
def gTuple : List D → Option D
  | [.lst xs] => some (.tup xs)
  | [.rd xs] => some (.tup xs)
  | [.tup xs] => some (.tup xs)
  | _ => none
def rTuple (K : PySem.W.Frag) : List V → Hp → VK → Prop := fun xs H Q => ∃ p ys, xs = [.ref p] ∧ ((SqL K H p ys ∧ ∀ l, H l = none → Q (.ref l) (upd H l (.tup ys))) ∨ (SqT K H p ys ∧ Q (.ref p) H))
theorem rep_tup_mk {K : PySem.W.Frag} {mg : Str → Option Value} {F : Hp} {l : Addr} {xs : List D} {vs : List V} (r : RepL K mg F xs vs) (n : F l = none) : Rep K mg (upd F l (.tup vs)) (.tup xs) (.ref l) := by
  unfold Rep
  exact ⟨l, vs, rfl, SqT.of upd_same, r.mono (same_upd n)⟩
theorem rep_lst_mk {K : PySem.W.Frag} {mg : Str → Option Value} {F : Hp} {l : Addr} {xs : List D} {vs : List V} (r : RepL K mg F xs vs) (n : F l = none) : Rep K mg (upd F l (.lst vs)) (.lst xs) (.ref l) := by
  unfold Rep
  exact ⟨l, vs, rfl, upd_same, r.mono (same_upd n)⟩
theorem cd_tuple {K : PySem.W.Frag} {mg : Str → Option Value} : CallD K mg (rTuple K) gTuple := by
  intro F H ds vs d Q s r h k
  unfold gTuple at h
  split at h
  · rename_i xs
    cases h
    obtain ⟨v, ev, rv⟩ := r.one
    obtain ⟨a, ws, e2, q, rl⟩ := rep_lst rv
    subst ev e2
    exact ⟨a, ws, rfl, .inl ⟨SqL.of (s _ _ q), fun l n => k _ _ _ (Grow.new s n) (rep_tup_mk rl (s.free n))⟩⟩
  · rename_i xs
    cases h
    obtain ⟨v, ev, rv⟩ := r.one
    obtain ⟨a, ws, e2, q, rl⟩ := rep_rd rv
    subst ev e2
    exact ⟨a, ws, rfl, .inl ⟨s.seq q, fun l n => k _ _ _ (Grow.new s n) (rep_tup_mk rl (s.free n))⟩⟩
  · rename_i xs
    cases h
    obtain ⟨v, ev, rv⟩ := r.one
    have rv' := rv
    obtain ⟨a, ws, e2, q, rl⟩ := rep_tup rv
    subst ev e2
    exact ⟨a, ws, rfl, .inr ⟨Same.tupS s q, k _ F H (Grow.refl s) rv'⟩⟩
  · cases h
/-- list(xs), let go of at once -/
def gList : List D → Option D
  | [.lst xs] => some (.lst xs)
  | [.rd xs] => some (.lst xs)
  | [.tup xs] => some (.lst xs)
  | _ => none
def rList (K : PySem.W.Frag) : List V → Hp → VK → Prop := fun xs H Q => ∃ p ys, xs = [.ref p] ∧ (SqL K H p ys ∨ SqT K H p ys) ∧ ∀ l, H l = none → Q (.ref l) (upd H l (.lst ys))
theorem cd_list {K : PySem.W.Frag} {mg : Str → Option Value} : CallD K mg (rList K) gList := by
  intro F H ds vs d Q s r h k
  unfold gList at h
  split at h
  · rename_i xs
    cases h
    obtain ⟨v, ev, rv⟩ := r.one
    obtain ⟨a, ws, e2, q, rl⟩ := rep_lst rv
    subst ev e2
    exact ⟨a, ws, rfl, .inl (SqL.of (s _ _ q)), fun l n => k _ _ _ (Grow.new s n) (rep_lst_mk rl (s.free n))⟩
  · rename_i xs
    cases h
    obtain ⟨v, ev, rv⟩ := r.one
    obtain ⟨a, ws, e2, q, rl⟩ := rep_rd rv
    subst ev e2
    exact ⟨a, ws, rfl, .inl (s.seq q), fun l n => k _ _ _ (Grow.new s n) (rep_lst_mk rl (s.free n))⟩
  · rename_i xs
    cases h
    obtain ⟨v, ev, rv⟩ := r.one
    obtain ⟨a, ws, e2, q, rl⟩ := rep_tup rv
    subst ev e2
    exact ⟨a, ws, rfl, .inr (Same.tupS s q), fun l n => k _ _ _ (Grow.new s n) (rep_lst_mk rl (s.free n))⟩
  · cases h

/-! ### len of a list variable -/
def eLenV (j : Nat) : EM D := fun ρ => match sqSl (ρ.getD j .no) with
  | none => .bad
  | some ds => .ok (.int ds.length) ρ
section
variable {X : Cx} {W : WX} {e : Expr} {x : Str} {p pos : Pos}
theorem de_lenV (j : Nat) (hg : Gl X x) (hm : X.mg x = none) (hv : bootBuiltins x = some (.builtin "len")) (ha : PE X e (tVar j)) (hn : x ≠ "__name__" := by decide) (hdb : (x == ("__debug__" : Str)) = false := by decide)
    (he : starEach [e] X.env = (false, eval e X.env) :: starEach [] X.env := by rfl) : PE X (.Call (.Name x p) [e] [] pos) (tE X.K X.mg W (eLenV j)) :=
  (pe_callB call_len_seq hg hm hv (pa_cons ha pa_nil he) hn hdb he rfl).imp fun σ H Q ⟨T, F, ρ, sr, h⟩ => by
    unfold eLenV at h
    cases z : sqSl (ρ.getD j .no) with
    | none => rw [z] at h; exact h.elim
    | some ds =>
      rw [z] at h
      obtain ⟨a, vs, e1, q, rl⟩ := sq_at sr z
      exact ⟨.ref a, e1, a, vs, rfl, q, by rw [rl.length]; exact h.ok_of sr (rep_int.mpr rfl)⟩
end

/-! ### t.index(x) of a written tuple of texts -/
def idxS (z : Str) : List Str → Option Nat
  | [] => none
  | y :: ys => if y = z then some 0 else (idxS z ys).map (· + 1)
theorem idxS_ok {z : Str} : ∀ {ys : List Str} {j : Nat}, idxS z ys = some j → ys[j]? = some z ∧ ∀ m, m < j → ys[m]? ≠ some z
  | [], j, h => by cases h
  | y :: ys, j, h => by
    have h : (if y = z then some 0 else (idxS z ys).map (· + 1)) = some j := h
    by_cases q : y = z
    · rw [if_pos q] at h
      cases h
      exact ⟨by rw [q]; rfl, fun m hm => absurd hm (Nat.not_lt_zero _)⟩
    · rw [if_neg q] at h
      obtain ⟨i, h1, h2⟩ := Option.map_eq_some_iff.mp h
      subst h2
      obtain ⟨a, b⟩ := idxS_ok h1
      refine ⟨a, fun m hm => ?_⟩
      cases m with
      | zero => exact fun e => q (Option.some.inj e)
      | succ m => exact b m (by omega)
/-- the global x is a tuple of texts in the written part -/
structure TupK (K : PySem.W.Frag) (mg : Str → Option Value) (x : Str) (ys : List Str) : Prop where
  ex : ∃ a o, mg x = some (.ref a) ∧ K.lookup a = some o ∧ o.cls = .type "tuple" ∧ o.dict = none ∧ ∀ H, SqT K H a (ys.map V.str)
def eIdx (ys : List Str) (f : EM D) : EM D := f.bind fun d => EM.opt (match d with
  | .str z => (idxS z ys).map fun j => .int (j : Nat)
  | _ => none)
section
variable {X : Cx} {W : WX} {e : Expr} {x : Str} {p apos cpos : Pos} {f : EM D} {ys : List Str}
theorem de_idx (t : TupK X.K X.mg x ys) (hg : Gl X x) (ha : PE X e (tE X.K X.mg W f)) (hd : (x == ("__debug__" : Str)) = false := by decide)
    (hbase : attributeBase (.Name x p) "index" X.env (eval (.Name x p) X.env) = eval (.Name x p) X.env := by rfl)
    (hfew : ((backTo cpos (starEach [e] X.env)).all (fun x => !x.1) && (backToKw cpos (keywordEach [] X.env)).all (fun x => x.1.isSome)
      && decide ([e].length + ([] : List Keyword).length + (if ([] : List Keyword).isEmpty then 0 else 1) < 30)) = true := by rfl)
    (hline : (apos.endLine == cpos.line) = true := by rfl) (hs : starEach [e] X.env = (false, eval e X.env) :: starEach [] X.env := by rfl) :
    PE X (.Call (.Attribute (.Name x p) "index" apos) [e] [] cpos) (tE X.K X.mg W (eIdx ys f)) := by
  obtain ⟨a, o, hm, hk, hc, hdd, hq⟩ := t.ex
  refine (pe_bm (T := "tuple") PySem.F.plainAttrs_tuple PySem.F.slot_tuple_index PySem.F.type_tuple_index mt_tup_index (pe_glob hg hm (v := V.ref a) rfl hd) (pa_cons ha pa_nil hs) hbase hfew hline hs rfl).imp fun σ H Q ⟨T', F, ρ, sr, h⟩ => ?_
  refine ⟨.inr (.inl ⟨rfl, o, hk, hc, hdd⟩), T', F, ρ, sr, (Post.bind h).imp fun v H1 ⟨d, F1, ρ1, sr1, rv, h1⟩ => ?_⟩
  cases d with
  | str z =>
    dsimp only [EM.opt] at h1
    cases q : idxS z ys with
    | none => rw [q] at h1; exact h1.elim
    | some j =>
      rw [q] at h1
      obtain ⟨q1, q2⟩ := idxS_ok q
      refine ⟨a, ys, z, j, rfl, by rw [rep_str.mp rv], hq H1, q1, q2, h1.ok_of sr1 (rep_int.mpr rfl)⟩
  | _ => exact h1.elim
end

/-! ### isinstance -/
/-- the built-in type of a value -/
def tyN : D → Option String
  | .non => some "NoneType"
  | .bl _ => some "bool"
  | .int _ => some "int"
  | .str _ => some "str"
  | .lst _ => some "list"
  | .tup _ => some "tuple"
  | _ => none
def isiD (T : String) (d : D) : Option Bool := (tyN d).bind fun a => kitB a T
theorem tyN_ty {K : PySem.W.Frag} {mg : Str → Option Value} {F H : Hp} {d : D} {v : V} {a : String} (s : Same F H) (h : tyN d = some a) (r : Rep K mg F d v) : TyX K H v (.type a) := by
  cases d <;> first | cases h | skip
  · rw [rep_non.mp r]; exact .base .non
  · rw [rep_bl.mp r]; exact .base (.bl _)
  · rw [rep_int.mp r]; exact .base (.int _)
  · rw [rep_str.mp r]; exact .base (.str _)
  · obtain ⟨a, ws, e2, q, rl⟩ := rep_lst r
    subst e2
    exact .base (.lst (s _ _ q))
  · obtain ⟨a, ws, e2, q, rl⟩ := rep_tup r
    subst e2
    rcases Same.tupS s q with (q | ⟨o, q⟩) | ⟨o, its, n, q, c, _⟩
    · exact .base (.tup q)
    · exact .fTuple q
    · exact .kTuple q c
def eIsi (T : String) (f : EM D) : EM Bool := f.bind fun d => EM.opt (isiD T d)
/-- a class of one's own as isinstance asks for it -/
structure IsiC (K : PySem.W.Frag) (C : Addr) : Prop where
  cl : Cls K C
  ha : PySem.W.findIn K (.ref C) "__class__" = some (some (.builtin "object.__class__"))
  hn : PySem.W.specialIn K (.builtin "object.__class__") "__get__" = some (some (.builtin "getset_descriptor.__get__"))
  htk : PySem.W.takesIn K (.builtin "object.__class__") = some true
  hm : PySem.W.mroIn K C (.type "object") = some true
def isiO (c : Str) : D → Option Bool
  | .ins c' _ _ => if c' = c then some true else none
  | _ => none
def eIsiO (c : Str) (f : EM D) : EM Bool := f.bind fun d => EM.opt (isiO c d)
section
variable {X : Cx} {W : WX} {e : Expr} {y c : Str} {p p2 pos : Pos} {f : EM D} {T : String} {C : Addr}
theorem de_isi (hg : Gl X "isinstance") (hm : X.mg "isinstance" = none) (gT : Gl X y) (mT : X.mg y = none) (vT : bootBuiltins y = some (.type T)) (ha : PE X e (tE X.K X.mg W f)) (hv : bootBuiltins "isinstance" = some (.builtin "isinstance") := by rfl) (nT : y ≠ "__name__" := by decide) (dT : (y == ("__debug__" : Str)) = false := by decide)
    (he : starEach [e, .Name y p2] X.env = (false, eval e X.env) :: starEach [.Name y p2] X.env := by rfl) (he2 : starEach [.Name y p2] X.env = (false, eval (.Name y p2) X.env) :: starEach [] X.env := by rfl) (hpl : (backTo pos (starEach [.Name y p2] X.env)).any (·.1) = false := by rfl) :
    PE X (.Call (.Name "isinstance" p) [e, .Name y p2] [] pos) (tE X.K X.mg W ((eIsi T f).bind fun b => EM.ret (.bl b))) :=
  (pe_callB call_isi hg hm hv (pa_cons ha (pa_cons (pe_bltn gT mT vT (v := V.ty T) rfl nT dT) pa_nil he2) he) (by decide) (by decide) he hpl).imp fun σ H Q ⟨T', F, ρ, sr, h⟩ => ⟨T', F, ρ, sr, by
    have h2 : Post X.K X.mg T' W (repE X.K X.mg) F σ Q ((f ρ).bind fun d => (EM.opt (isiD T d) : EM Bool).bind fun b => EM.ret (.bl b)) := by
      unfold eIsi EM.bind at h
      unfold EM.bind
      cases z : f ρ <;> rw [z] at h <;> exact h
    exact (Post.bind h2).imp fun v H1 ⟨d, F1, ρ1, sr1, rv, h1⟩ => by
      unfold EM.bind EM.opt at h1
      cases z : isiD T d with
      | none => rw [z] at h1; exact h1.elim
      | some b =>
        rw [z] at h1
        obtain ⟨a, z1, z2⟩ := Option.bind_eq_some_iff.mp z
        exact ⟨v, .ty T, _, _, b, rfl, .ty T, tyN_ty sr1.sub z1 rv, kit_ty z2, h1.ok_of sr1 (rep_bl.mpr rfl)⟩⟩
theorem de_isiO (ic : IsiC X.K C) (hg : Gl X "isinstance") (hm : X.mg "isinstance" = none) (gT : Gl X c) (mT : X.mg c = some (.ref C)) (ha : PE X e (tE X.K X.mg W f)) (hv : bootBuiltins "isinstance" = some (.builtin "isinstance") := by rfl) (dT : (c == ("__debug__" : Str)) = false := by decide)
    (he : starEach [e, .Name c p2] X.env = (false, eval e X.env) :: starEach [.Name c p2] X.env := by rfl) (he2 : starEach [.Name c p2] X.env = (false, eval (.Name c p2) X.env) :: starEach [] X.env := by rfl) (hpl : (backTo pos (starEach [.Name c p2] X.env)).any (·.1) = false := by rfl) :
    PE X (.Call (.Name "isinstance" p) [e, .Name c p2] [] pos) (tE X.K X.mg W ((eIsiO c f).bind fun b => EM.ret (.bl b))) :=
  (pe_callB call_isi hg hm hv (pa_cons ha (pa_cons (pe_glob gT mT (v := V.ref C) rfl dT) pa_nil he2) he) (by decide) (by decide) he hpl).imp fun σ H Q ⟨T', F, ρ, sr, h⟩ => ⟨T', F, ρ, sr, by
    have h2 : Post X.K X.mg T' W (repE X.K X.mg) F σ Q ((f ρ).bind fun d => (EM.opt (isiO c d) : EM Bool).bind fun b => EM.ret (.bl b)) := by
      unfold eIsiO EM.bind at h
      unfold EM.bind
      cases z : f ρ <;> rw [z] at h <;> exact h
    exact (Post.bind h2).imp fun v H1 ⟨d, F1, ρ1, sr1, rv, h1⟩ => by
      unfold EM.bind EM.opt at h1
      cases z : isiO c d with
      | none => rw [z] at h1; exact h1.elim
      | some b =>
        rw [z] at h1
        cases d with
        | ins c' ns ds =>
          have z : (if c' = c then some true else none) = some b := z
          by_cases q : c' = c
          · rw [if_pos q] at z
            cases z
            subst q
            unfold Rep at rv
            obtain ⟨a, C', dx, fs, ev, m, ha', hn, rl⟩ := rv
            obtain rfl := cls_same mT m
            subst ev
            refine ⟨.ref a, .ref C', .ref C', _, true, rfl, .own C', .base (.ins (sr1.sub _ _ ha') ic.cl ic.ha ic.hn ic.htk ic.hm), ?_, h1.ok_of sr1 (rep_bl.mpr rfl)⟩
            unfold PySem.W.kitOne
            rw [if_pos (by simp)]
          · rw [if_neg q] at z
            cases z
        | _ => cases z⟩
end

/-! ### xs[:n] -/
def gTake : D → Int → Option D
  | .lst xs, i => if 0 ≤ i then some (.lst (xs.take i.toNat)) else none
  | _, _ => none
def eTake (i : Int) (f : EM D) : EM D := f.bind fun d => EM.opt (gTake d i)
theorem cut_take {vs : List V} {i : Int} (h : 0 ≤ i) : cutV vs none (some i) = vs.take i.toNat := by
  unfold cutV
  have e0 : HT.sIx vs.length 0 none = 0 := rfl
  have e1 : HT.sIx vs.length vs.length (some i) = min i.toNat vs.length := by
    simp only [HT.sIx]
    split <;> omega
  rw [e0, e1, List.drop_zero, Nat.sub_zero]
  rw [Nat.min_comm, List.take_eq_take_iff]
  omega
section
variable {X : Cx} {W : WX} {e : Expr} {i : Int} {j : Tok} {kp : Option _} {p p2 pos : Pos} {f : EM D}
theorem de_take {hi : Expr} (he : PE X e (tE X.K X.mg W f)) (hh : PE X hi (tC (.int i))) : PE X (.Subscript e (.Slice none (some hi) none p2) pos) (tE X.K X.mg W (eTake i f)) :=
  (pe_slice sl_list he po_none (po_some hh)).imp fun σ H Q ⟨T', F, ρ, sr, h⟩ => ⟨T', F, ρ, sr, (Post.bind h).imp fun v H1 ⟨d, F1, ρ1, sr1, rv, h1⟩ => by
    cases d with
    | lst xs =>
      dsimp only [EM.opt, gTake] at h1
      by_cases z : 0 ≤ i
      · rw [if_pos z] at h1
        obtain ⟨a, ws, e2, q, rl⟩ := rep_lst rv
        subst e2
        refine ⟨i, rfl, a, ws, rfl, SqL.of (sr1.sub _ _ q), fun l n => ?_⟩
        rw [cut_take z]
        exact h1.ok_grow sr1 (Grow.new sr1.sub n) (rep_lst_mk (rl.take _) (sr1.sub.free n))
      · rw [if_neg z] at h1
        exact h1.elim
    | _ => exact h1.elim⟩
end

/-! ### y = [.. for ..] -/
section
variable {X : Cx} {W : WX}
theorem ds_setLc {y : Str} {py : Pos} {elt tg iter : Expr} {ifs : List Expr} {scope : Scope} {own : List (Str × Nat)} {pos spos : Pos} {g : Tg} {c : EM Bool} {fe : EM D} {src : EM Src} (i : Nat) (hc : X.calm = true) (hN : X.N.Nodup) (hy : X.N[i]? = some y) (hyl : X.env.scope.names.lookup y = some .local)
    (hsw : swapsWith (.ListComp elt [⟨tg, iter, ifs, 0⟩] scope pos) (some (.Name y py)) spos.line X.env = pure true) (hi : PI X tg iter (tI X.K X.mg W src)) (ok : BlkOk X.N X.env.scope scope own)
    (hg : ∀ (s : Shared) (H : Hp) (C : Addr) (cl : List (Str × Addr)) (fp : List Addr), PG (X.blk s H scope (compEnvC scope cl C X.env) fp) tg (tgR X.K g)) (ht : ∀ (s : Shared) (H : Hp) (C : Addr) (cl : List (Str × Addr)) (fp : List Addr), PTs (X.blk s H scope (compEnvC scope cl C X.env) fp) ifs (tT X.K X.mg W0 c))
    (he : ∀ (s : Shared) (H : Hp) (C : Addr) (cl : List (Str × Addr)) (fp : List Addr), PE (X.blk s H scope (compEnvC scope cl C X.env) fp) elt (tE X.K X.mg W0 fe)) (hsl : ∀ i ∈ g.slots, i ∈ own.map (·.2)) (hs : ∀ x, foldedSetIterable iter X.env x = pure x := by intro _; rfl) :
    PS X (.Assign [.Name y py] (.ListComp elt [⟨tg, iter, ifs, 0⟩] scope pos) spos) (tS X.K X.mg W (sAsgO i (oComp g c fe (own.map (·.2)) src))) :=
  (ps_setLc hc hN hy hyl hsw hi ok hg ht he hs).imp fun D σ H ⟨T, F, ρ, sr, h⟩ => comp_go hsl sr (asgO_go h)
theorem ds_setLc2 {y : Str} {py : Pos} {elt tg iter tg1 iter1 : Expr} {ifs ifs1 : List Expr} {scope : Scope} {own : List (Str × Nat)} {vs1 : List Nat} {pos spos : Pos} {g g1 : Tg} {c c1 : EM Bool} {fe : EM D} {src src1 : EM Src} (i : Nat) (hc : X.calm = true) (hN : X.N.Nodup) (hy : X.N[i]? = some y) (hyl : X.env.scope.names.lookup y = some .local)
    (hsw : swapsWith (.ListComp elt [⟨tg, iter, ifs, 0⟩, ⟨tg1, iter1, ifs1, 0⟩] scope pos) (some (.Name y py)) spos.line X.env = pure true) (hi : PI X tg iter (tI X.K X.mg W src)) (ok : BlkOk X.N X.env.scope scope own) (hv : ∀ i ∈ vs1, i ∈ own.map (·.2))
    (hg : ∀ (s : Shared) (H : Hp) (C : Addr) (cl : List (Str × Addr)) (fp : List Addr), PG (X.blk s H scope (compEnvC scope cl C X.env) fp) tg (tgR X.K g)) (ht : ∀ (s : Shared) (H : Hp) (C : Addr) (cl : List (Str × Addr)) (fp : List Addr), PTs (X.blk s H scope (compEnvC scope cl C X.env) fp) ifs (tT X.K X.mg W0 c))
    (hi1 : ∀ (s : Shared) (H : Hp) (C : Addr) (cl : List (Str × Addr)) (fp : List Addr), PI (X.blk s H scope (compEnvC scope cl C X.env) fp) tg1 iter1 (tI X.K X.mg W0 src1))
    (hg1 : ∀ (s : Shared) (H : Hp) (C : Addr) (cl : List (Str × Addr)) (fp : List Addr), PG (X.blk s H scope (compEnvC scope cl C X.env) fp) tg1 (tgR X.K g1)) (ht1 : ∀ (s : Shared) (H : Hp) (C : Addr) (cl : List (Str × Addr)) (fp : List Addr), PTs (X.blk s H scope (compEnvC scope cl C X.env) fp) ifs1 (tT X.K X.mg W0 c1))
    (he : ∀ (s : Shared) (H : Hp) (C : Addr) (cl : List (Str × Addr)) (fp : List Addr), PE (X.blk s H scope (compEnvC scope cl C X.env) fp) elt (tE X.K X.mg W0 fe)) (hsl : ∀ i ∈ g.slots, i ∈ own.map (·.2)) (hsl1 : ∀ i ∈ g1.slots, i ∈ vs1)
    (hs : ∀ x, foldedSetIterable iter X.env x = pure x := by intro _; rfl) (hs1 : ∀ env x, foldedSetIterable iter1 env x = pure x := by intro _ _; rfl) :
    PS X (.Assign [.Name y py] (.ListComp elt [⟨tg, iter, ifs, 0⟩, ⟨tg1, iter1, ifs1, 0⟩] scope pos) spos) (tS X.K X.mg W (sAsgO i (oComp2 g c src1 g1 c1 fe (own.map (·.2)) vs1 src))) :=
  (ps_setLc2 hc hN hy hyl hsw hi ok hv hg ht hi1 hg1 ht1 he hs hs1).imp fun D σ H ⟨T, F, ρ, sr, h⟩ => comp2_go hsl hsl1 hv sr (asgO_go h)
end
end DL

set_option Elab.async false
set_option linter.all false
set_option maxRecDepth 100000
set_option maxHeartbeats 4000000
/-! DR9: operators that are defs of one's own class; a def with a star. -/
namespace PySem.W
open PySem PySem.Calls PyProof.Rows
theorem int_add_inst (a : Int) (t : Tok) (x C dx : Addr) : Meets (Builtin.«int.__add__» ⟨[.int a t, .ref x], []⟩) (fun _ R s => s.heap.get? x = some (instObj C dx) ∧ R (.ok (.ret Value.notImplemented)) s) :=
  .of_wp fun prog w A R s h => by
    obtain ⟨hp, g, d, tk, os⟩ := s
    obtain ⟨hl, h⟩ := h
    wp_walk using wpAny_loadPart' hl
    exact ⟨_, rfl, h⟩
section
variable {prog : Program} {w : World} {A : Around} {E : Value → Shared → Prop} {s : Shared} {K : Frag} {x C L f f0 dx : Addr} {h₀ : Heap} {m : Str → Option Value} {od : Option Obj}
/-- int + x, x an instance of a class with an __add__ and an __radd__ of its own -/
theorem binL {i : Int} {t : Tok} {Q : Value → Shared → Prop} (Fz : Fr h₀ L s.heap m) (X₀ : K.In h₀) (I : InstAt s.heap x (instObj C dx) C od) (hc : selfFirst K C = true) (ho : findIn K (.ref C) (PySem.dunder "add") = some (some (.ref f0)))
    (hs : findIn K (.ref C) (dunderR "add") = some (some (.ref f))) (hf : isFn K (.ref f) = true) (hsub : subIn K (.ref C) (.type "int") = some false)
    (h : wpAny (model prog w) A (call (.ref f) [.ref x, .int i t]) (CmpBack Q) E s) : wpAny (model prog w) A (binaryOp .Add (.int i t) (.ref x)) Q E s := by
  have X := X₀.keeps Fz.keep
  obtain ⟨cd, rest, hcd, hm⟩ := ksp_first hc
  have hat := I.at_
  have two := ksp_try X I hs hf h
  have hne : (Value.type "int" == Value.ref C) = false := Bool.eq_false_iff.mpr fun q => by cases beq_iff_eq.mp q
  have hpy : numberSlotInPython (.type "int") "add" = pure false := rfl
  simp only [binaryOp, show Operator.Add.info = ("+", "add") from rfl]
  refine wpAny_holding (wpAny_bind ?_)
  unfold binaryOp1
  refine wpAny_bind (wpAny_typeOf (typeIs_int s i t) (wpAny_bind (I.type.here (wpAny_bind (wpAny_of_eq PySem.F.fills_int_add ?_)))))
  simp only [hne, Bool.false_eq_true, if_false]
  refine wpAny_bind ((fills_K X hcd hm ho).here ?_)
  simp only [Bool.and_self, if_true]
  refine wpAny_bind ((looks_subIn X hsub).here ?_)
  simp only [Bool.false_eq_true, if_false, pure_bind, Bool.not_false, Bool.and_self, if_true, hpy]
  refine wpAny_bind (wpAny_tryMethod_declines (typeIs_int s i t) PySem.F.slot_int_add (call_meets PySem.F.slot_int_add (typeIs_int s i t) PySem.F.entry_int_add (PySem.F.args_int_add_2 _ _) (int_add_inst i t x C dx) ⟨hat, rfl, ?_⟩))
  refine wpAny_bind (wpAny_mono two (fun r s' hr' => ?_) fun _ _ e => e)
  obtain ⟨v, rfl, hq⟩ := hr'
  exact wpAny_bind (wpAny_rule (wpAny_pure (wpAny_pure hq)))
end
end PySem.W
namespace DL
open PySem PySem.Spec L2
open PyProof.Rows hiding St
/-- a def of the class at C under a name of its own -/
structure DunD (K : PySem.W.Frag) (C : Addr) (nm : Str) (g : Addr) : Prop where
  at_ : PySem.W.findIn K (.ref C) nm = some (some (.ref g))
  fn : PySem.W.isFn K (.ref g) = true
def rBin (K : PySem.W.Frag) (mg : Str → Option Value) (fs : EM D) (C : Addr) : R2 := fun x y H Q => ∃ a dx gs b dy hs, x = .ref a ∧ y = .ref b ∧ H a = some (.ins C dx gs) ∧ H b = some (.ins C dy hs) ∧ sp0 K mg fs [x, y] H Q E0
def rBinI (K : PySem.W.Frag) (mg : Str → Option Value) (fs : EM D) (C : Addr) : R2 := fun x y H Q => ∃ a dx gs i, x = .ref a ∧ y = .int i ∧ H a = some (.ins C dx gs) ∧ sp0 K mg fs [x, y] H Q E0
def rBinL (K : PySem.W.Frag) (mg : Str → Option Value) (fs : EM D) (C : Addr) : R2 := fun x y H Q => ∃ b dx gs i, x = .int i ∧ y = .ref b ∧ H b = some (.ins C dx gs) ∧ sp0 K mg fs [y, x] H Q E0
/-- the class takes an int on its right -/
structure IntR (K : PySem.W.Frag) (C : Addr) (nm : String) : Prop where
  rc : ∃ rc, PySem.W.findIn K (.ref C) (dunderR nm) = some rc ∧ (rc = none ∨ ∃ g : Addr, rc = some (.ref g))
  h1 : ∃ fo, PySem.W.findIn K (.type "int") (PySem.dunder nm) = some fo
  h2 : ∃ ro, PySem.W.findIn K (.type "int") (dunderR nm) = some ro
  sub : PySem.W.subIn K (.type "int") (.ref C) = some false
section
variable {X : Cx} {C g g0 : Addr} {fs : EM D} {k : Nat} {op : Operator} {cop : CmpOp}
theorem op_binO (sf : PySem.W.selfFirst X.K C = true) (d : DunD X.K C (PySem.dunder op.info.2) g) (G : FnR X.prog X.w X.K X.mg X.base CX0 k g (sp0 X.K X.mg fs)) (hr : Room k X.A) : OpR X (binaryOp op) (rBin X.K X.mg fs C) := by
  intro pins s σ H x y v u Q I rx ry h
  obtain ⟨a, dx, gs, b, dy, hs, rfl, rfl, ha, hb, q⟩ := h
  cases (show v = Value.ref a from rx)
  cases (show u = Value.ref b from ry)
  obtain ⟨_, O, _⟩ := ins_get I.hok ha
  obtain ⟨od, J, _⟩ := O.look
  obtain ⟨_, O', _⟩ := ins_get I.hok hb
  obtain ⟨od', J', _⟩ := O'.look
  obtain ⟨m, hF⟩ := I.fr
  refine PySem.W.binop_K hF I.ok.mod.kin J J'.type sf d.at_ d.fn ?_
  refine wpAny_mono (run_fnG (us := [.ref a, .ref b]) (vs := [.ref a, .ref b]) G hr (fun _ _ z => z.elim) I (.cons rfl (.cons rfl .nil)) q) (fun w s' z => ?_) fun _ _ x => x
  obtain ⟨z', H', I', rz, qz⟩ := z
  exact SlX.cmpback rz ⟨z', H', I', rz, qz⟩
theorem op_binI (sf : PySem.W.selfFirst X.K C = true) (d : DunD X.K C (PySem.dunder op.info.2) g) (ir : IntR X.K C op.info.2) (G : FnR X.prog X.w X.K X.mg X.base CX0 k g (sp0 X.K X.mg fs)) (hr : Room k X.A) : OpR X (binaryOp op) (rBinI X.K X.mg fs C) := by
  intro pins s σ H x y v u Q I rx ry h
  obtain ⟨a, dx, gs, i, rfl, rfl, ha, q⟩ := h
  cases (show v = Value.ref a from rx)
  have ry' := ry
  obtain ⟨t, rfl⟩ := ry
  obtain ⟨_, O, _⟩ := ins_get I.hok ha
  obtain ⟨od, J, _⟩ := O.look
  obtain ⟨m, hF⟩ := I.fr
  obtain ⟨rc, r1, r2⟩ := ir.rc
  obtain ⟨fo, h1⟩ := ir.h1
  obtain ⟨ro, h2⟩ := ir.h2
  refine PySem.W.ksp_binT (T := "int") hF I.ok.mod.kin J rfl sf d.at_ d.fn r1 r2 h1 h2 ir.sub ?_
  refine wpAny_mono (run_fnG (us := [.ref a, .int i t]) (vs := [.ref a, .int i]) G hr (fun _ _ z => z.elim) I (.cons rfl (.cons ry' .nil)) q) (fun w s' z => ?_) fun _ _ x => x
  obtain ⟨z', H', I', rz, qz⟩ := z
  exact SlX.cmpback rz ⟨z', H', I', rz, qz⟩
theorem op_binL (sf : PySem.W.selfFirst X.K C = true) (d0 : DunD X.K C (PySem.dunder "add") g0) (d : DunD X.K C (dunderR "add") g) (sub : PySem.W.subIn X.K (.ref C) (.type "int") = some false) (G : FnR X.prog X.w X.K X.mg X.base CX0 k g (sp0 X.K X.mg fs)) (hr : Room k X.A) : OpR X (binaryOp .Add) (rBinL X.K X.mg fs C) := by
  intro pins s σ H x y v u Q I rx ry h
  obtain ⟨b, dx, gs, i, rfl, rfl, hb, q⟩ := h
  cases (show u = Value.ref b from ry)
  have rx' := rx
  obtain ⟨t, rfl⟩ := rx
  obtain ⟨mA, O, _⟩ := ins_get I.hok hb
  obtain ⟨od, J, _⟩ := O.look
  obtain ⟨m, hF⟩ := I.fr
  refine PySem.W.binL (dx := dx) hF I.ok.mod.kin J sf d0.at_ d.at_ d.fn sub ?_
  refine wpAny_mono (run_fnG (us := [.ref b, .int i t]) (vs := [.ref b, .int i]) G hr (fun _ _ z => z.elim) I (.cons rfl (.cons rx' .nil)) q) (fun w s' z => ?_) fun _ _ x => x
  obtain ⟨z', H', I', rz, qz⟩ := z
  exact SlX.cmpback rz ⟨z', H', I', rz, qz⟩
theorem op_cmpO (hop : ∀ a b, compareOp cop a b = richCompare cop a b) (nf : PySem.W.notFirst X.K C (.ref C) = true) (d : DunD X.K C (cmpInfo cop).2.1 g) (G : FnR X.prog X.w X.K X.mg X.base CX0 k g (sp0 X.K X.mg fs)) (hr : Room k X.A) : OpR X (compareOp cop) (rBin X.K X.mg fs C) := by
  intro pins s σ H x y v u Q I rx ry h
  obtain ⟨a, dx, gs, b, dy, hs, rfl, rfl, ha, hb, q⟩ := h
  cases (show v = Value.ref a from rx)
  cases (show u = Value.ref b from ry)
  obtain ⟨_, O, _⟩ := ins_get I.hok ha
  obtain ⟨od, J, _⟩ := O.look
  obtain ⟨_, O', _⟩ := ins_get I.hok hb
  obtain ⟨od', J', _⟩ := O'.look
  obtain ⟨m, hF⟩ := I.fr
  rw [hop]
  refine PySem.W.cmp_K (op := cop) (tb := .ref C) hr.units0 hF I.ok.mod.kin J J'.type nf d.at_ d.fn ?_
  refine wpAny_mono (run_fnG (us := [.ref a, .ref b]) (vs := [.ref a, .ref b]) G hr (fun _ _ z => z.elim) I (.cons rfl (.cons rfl .nil)) q) (fun w s' z => ?_) fun _ _ x => x
  obtain ⟨z', H', I', rz, qz⟩ := z
  exact SlX.cmpback rz ⟨z', H', I', rz, qz⟩
end
/-! ### as readings -/
def isI : D → Bool
  | .int _ => true
  | _ => false
def ownRes (p : D → D → Bool) (sw : Bool) (fs : EM D) (x y : D) : EM D := if p x y = true then callRes0 fs (if sw = true then [y, x] else [x, y]) else fun _ => .bad
/-- x op y by a def: p says for which values, sw whether it is asked of the right one -/
def eOwn (p : D → D → Bool) (sw : Bool) (fs : EM D) (fa fb : EM D) : EM D := fa.bind fun x => fb.bind fun y => ownRes p sw fs x y
def pOO (c : Str) (x y : D) : Bool := isIns c none x && isIns c none y
def pOI (c : Str) (x y : D) : Bool := isIns c none x && isI y
def pIO (c : Str) (x y : D) : Bool := isI x && isIns c none y
theorem isI_rep {K : PySem.W.Frag} {mg : Str → Option Value} {F : Hp} {d : D} {v : V} (h : isI d = true) (r : Rep K mg F d v) : ∃ i, v = .int i := by
  cases d <;> first | exact ⟨_, rep_int.mp r⟩ | cases h
section
variable {K : PySem.W.Frag} {mg : Str → Option Value} {W : WX} {fs fa fb : EM D} {c : Str} {C : Addr}
theorem own_go {p : D → D → Bool} {sw : Bool} {r : R2} (hp : ∀ (F H : Hp) (x y : D) (v w : V) (Q : VK), Same F H → Rep K mg F x v → Rep K mg F y w → p x y = true → sp0 K mg fs (if sw = true then [w, v] else [v, w]) H Q E0 → r v w H Q)
    (σ : St) (H : Hp) (Q : VK) (h : tE K mg W (eOwn p sw fs fa fb) σ H Q) : tOp r (tE K mg W fa) (tE K mg W fb) σ H Q := by
  obtain ⟨T, F, ρ, sr, h⟩ := h
  refine ⟨T, F, ρ, sr, (Post.bind h).imp fun v H1 ⟨x, F1, ρ1, sr1, rx, h1⟩ => ⟨T, F1, ρ1, sr1, (Post.bind' h1).imp fun w H2 ⟨y, F2, ρ2, _, s2, sr2, ry, h2⟩ => ?_⟩⟩
  unfold ownRes at h2
  have rx2 := Rep.mono s2 rx
  by_cases z : p x y = true
  · rw [if_pos z] at h2
    refine hp F2 H2 x y v w Q sr2.sub rx2 ry z ?_
    cases sw with
    | true =>
      rw [if_pos rfl] at h2 ⊢
      exact call0_fz sr2 (.cons ry (.cons rx2 .nil)) h2 _
    | false =>
      rw [if_neg Bool.false_ne_true] at h2 ⊢
      exact call0_fz sr2 (.cons rx2 (.cons ry .nil)) h2 _
  · rw [if_neg z] at h2
    exact h2.elim
theorem go_OO (hm : mg c = some (.ref C)) (F H : Hp) (x y : D) (v w : V) (Q : VK) (s : Same F H) (rx : Rep K mg F x v) (ry : Rep K mg F y w) (z : pOO c x y = true) (h : sp0 K mg fs [v, w] H Q E0) : rBin K mg fs C v w H Q := by
  obtain ⟨z1, z2⟩ := Bool.and_eq_true_iff.mp z
  obtain ⟨a, C1, dx, gs, e1, m1, h1, _⟩ := isIns_rep z1 rx
  obtain ⟨b, C2, dy, hs, e2, m2, h2, _⟩ := isIns_rep z2 ry
  obtain rfl := cls_same hm m1
  obtain rfl := cls_same hm m2
  exact ⟨a, dx, gs, b, dy, hs, e1, e2, s _ _ h1, s _ _ h2, h⟩
theorem go_OI (hm : mg c = some (.ref C)) (F H : Hp) (x y : D) (v w : V) (Q : VK) (s : Same F H) (rx : Rep K mg F x v) (ry : Rep K mg F y w) (z : pOI c x y = true) (h : sp0 K mg fs [v, w] H Q E0) : rBinI K mg fs C v w H Q := by
  obtain ⟨z1, z2⟩ := Bool.and_eq_true_iff.mp z
  obtain ⟨a, C1, dx, gs, e1, m1, h1, _⟩ := isIns_rep z1 rx
  obtain ⟨i, e2⟩ := isI_rep z2 ry
  obtain rfl := cls_same hm m1
  exact ⟨a, dx, gs, i, e1, e2, s _ _ h1, h⟩
theorem go_IO (hm : mg c = some (.ref C)) (F H : Hp) (x y : D) (v w : V) (Q : VK) (s : Same F H) (rx : Rep K mg F x v) (ry : Rep K mg F y w) (z : pIO c x y = true) (h : sp0 K mg fs [w, v] H Q E0) : rBinL K mg fs C v w H Q := by
  obtain ⟨z1, z2⟩ := Bool.and_eq_true_iff.mp z
  obtain ⟨a, C1, dx, gs, e1, m1, h1, _⟩ := isIns_rep z2 ry
  obtain ⟨i, e2⟩ := isI_rep z1 rx
  obtain rfl := cls_same hm m1
  exact ⟨a, dx, gs, i, e2, e1, s _ _ h1, h⟩
end
section
variable {X : Cx} {W : WX} {C g g0 : Addr} {fs fa fb : EM D} {k : Nat} {op : Operator} {cop : CmpOp} {a b : Expr} {c : Str} {pos : Pos}
theorem de_binO (sf : PySem.W.selfFirst X.K C = true) (hm : X.mg c = some (.ref C)) (d : DunD X.K C (PySem.dunder op.info.2) g) (G : FnR X.prog X.w X.K X.mg X.base CX0 k g (sp0 X.K X.mg fs)) (hr : Room k X.A) (ha : PE X a (tE X.K X.mg W fa)) (hb : PE X b (tE X.K X.mg W fb)) :
    PE X (.BinOp a op b pos) (tE X.K X.mg W (eOwn (pOO c) false fs fa fb)) := (pe_op (op_binO sf d G hr) ha hb).imp (own_go (sw := false) (go_OO hm))
theorem de_binI (sf : PySem.W.selfFirst X.K C = true) (hm : X.mg c = some (.ref C)) (d : DunD X.K C (PySem.dunder op.info.2) g) (ir : IntR X.K C op.info.2) (G : FnR X.prog X.w X.K X.mg X.base CX0 k g (sp0 X.K X.mg fs)) (hr : Room k X.A) (ha : PE X a (tE X.K X.mg W fa)) (hb : PE X b (tE X.K X.mg W fb)) :
    PE X (.BinOp a op b pos) (tE X.K X.mg W (eOwn (pOI c) false fs fa fb)) := (pe_op (op_binI sf d ir G hr) ha hb).imp (own_go (sw := false) (go_OI hm))
theorem de_binL (sf : PySem.W.selfFirst X.K C = true) (hm : X.mg c = some (.ref C)) (d0 : DunD X.K C (PySem.dunder "add") g0) (d : DunD X.K C (dunderR "add") g) (sub : PySem.W.subIn X.K (.ref C) (.type "int") = some false) (G : FnR X.prog X.w X.K X.mg X.base CX0 k g (sp0 X.K X.mg fs)) (hr : Room k X.A) (ha : PE X a (tE X.K X.mg W fa)) (hb : PE X b (tE X.K X.mg W fb)) :
    PE X (.BinOp a .Add b pos) (tE X.K X.mg W (eOwn (pIO c) true fs fa fb)) := (pe_op (op_binL sf d0 d sub G hr) ha hb).imp (own_go (sw := true) (go_IO hm))
theorem de_cmpO (hop : ∀ a b, compareOp cop a b = richCompare cop a b) (nf : PySem.W.notFirst X.K C (.ref C) = true) (hm : X.mg c = some (.ref C)) (d : DunD X.K C (cmpInfo cop).2.1 g) (G : FnR X.prog X.w X.K X.mg X.base CX0 k g (sp0 X.K X.mg fs)) (hr : Room k X.A) (ha : PE X a (tE X.K X.mg W fa)) (hb : PE X b (tE X.K X.mg W fb)) (hbm : behindInMarks cop b = false := by rfl) :
    PE X (.Compare a [cop] [b] pos) (tE X.K X.mg W (eOwn (pOO c) false fs fa fb)) := (pe_cmpR (op_cmpO hop nf d G hr) ha hb hbm).imp (own_go (sw := false) (go_OO hm))
end

/-! ### def f(a, .., *v) -/
def frzs : List Sl → Option (List D)
  | [] => some []
  | .fz d :: as => (frzs as).map (d :: ·)
  | _ :: _ => none
theorem frzs_eq : ∀ {as : List Sl} {ds : List D}, frzs as = some ds → as = ds.map .fz
  | [], ds, h => by cases h; rfl
  | a :: as, ds, h => by
    cases a with
    | fz d =>
      obtain ⟨es, h1, h2⟩ := Option.map_eq_some_iff.mp (show (frzs as).map (d :: ·) = some ds from h)
      subst h2
      rw [List.map_cons, ← frzs_eq h1]
    | _ => cases h
def fStar (n : Nat) (fs : EM D) : EM D := fun as => match frzs as with
  | none => .bad
  | some ds => if n ≤ ds.length ∧ ds.length ≤ LIM then callRes0 fs (ds.take n ++ [.tup (ds.drop n)]) as else .bad
theorem sr_vals {K : PySem.W.Frag} {mg : Str → Option Value} {T : Sit} {F H : Hp} : ∀ {ds : List D} {vs : List V}, vs.length = ds.length → (∀ i, SlR K mg T F H i (vs.map some)[i]? ((ds.map Sl.fz).getD i .no)) → RepL K mg F ds vs
  | [], [], _, _ => .nil
  | [], _ :: _, h, _ => by cases h
  | _ :: _, [], h, _ => by cases h
  | d :: ds, v :: vs, hl, h => by
    obtain ⟨u, e, r⟩ := h 0
    have e : v = u := by
      have e : some (some v) = some (some u) := e
      injection e with e
      injection e
    subst e
    refine .cons r (sr_vals (T := T) (H := H) (Nat.succ.inj hl) fun i => ?_)
    have w := h (i + 1)
    rw [List.map_cons, List.map_cons, getD_cons] at w
    rw [map_fz_getD] at w ⊢
    cases z : ds[i]? with
    | none => trivial
    | some d' => rw [z] at w; exact w
theorem sr_repl {K : PySem.W.Frag} {mg : Str → Option Value} {T : Sit} {F H : Hp} {ds : List D} {vs : List V} (sr : SR K mg T F H (vs.map some) (ds.map .fz)) : RepL K mg F ds vs := by
  have hl := sr.len
  rw [List.length_map, List.length_map] at hl
  exact sr_vals hl.symm sr.sl
theorem fn0b {P : Program} {w : World} {K : PySem.W.Frag} {mg : Str → Option Value} {base : Heap} {qual : Str} {st : Stmt} {f : Addr} {N ps : List Str} {k : Nat} {b : EM Fl}
    (hb : ∀ (cdv : Value) (A : Around) (outer : List Env) (s : Shared) (H : Hp) (E : XK), Room k (A.deeper (envOfC qual (defScope st) s.heap.objs.size f cdv)) →
      PSs (cxOf CX0 P w K mg base N qual (defScope st) f cdv A outer s H E).nox (defBody st) (tS K mg W0 b)) (cdv : Value) (A : Around) (outer : List Env) (s : Shared) (H : Hp) (vs : List V) (Q : VK) (E : XK)
    (hr : Room k (A.deeper (envOfC qual (defScope st) s.heap.objs.size f cdv))) (h : sp0 K mg (fOf ps.length N.length b) vs H Q E) :
    ∃ t, PSs (cxOf CX0 P w K mg base N qual (defScope st) f cdv A outer s H E) (defBody st) t ∧ t { nx := fun _ H' => Q .non H', rt := Q } (L2.start N vs) H := by
  refine ⟨_, (hb cdv A outer s H E hr).nox, ?_⟩
  obtain ⟨T, F, as, sr, h⟩ := h
  unfold fOf at h
  by_cases z : as.length = ps.length
  · rw [if_pos z] at h
    have e : L2.start N vs = vs.map some ++ List.replicate (N.length - as.length) none := by
      unfold L2.start
      rw [sr.len, List.length_map]
    rw [e]
    refine ⟨T, F, _, sr.pad (N.length - as.length), ?_⟩
    cases q : b (as ++ List.replicate (N.length - as.length) .no) with
    | bad => rw [q] at h; exact h.elim
    | ex c ns ds ρ' =>
      rw [q] at h
      dsimp only at h
      cases q2 : mergeA ρ' 0 as with
      | none => rw [q2] at h; exact h.elim
      | some as' =>
        rw [q2] at h
        exact fun σ' C dx F' H' s sr' m xr => h C dx F' H' s (merge_ok sr sr' s q2) m xr
    | ok a ρ' =>
      rw [q] at h
      cases a with
      | nx =>
        dsimp only at h
        cases q2 : mergeA ρ' 0 as with
        | none => rw [q2] at h; exact h.elim
        | some as' =>
          rw [q2] at h
          exact fun σ' F' H' s sr' => h .non F' H' s (merge_ok sr sr' s q2) (rep_non.mpr rfl)
      | rt d =>
        dsimp only at h
        cases q2 : mergeA ρ' 0 as with
        | none => rw [q2] at h; exact h.elim
        | some as' =>
          rw [q2] at h
          exact fun σ' v F' H' s sr' r => h v F' H' s (merge_ok sr sr' s q2) r
      | bk => exact h.elim
      | ct => exact h.elim
  · rw [if_neg z] at h
    exact h.elim
theorem fnStar0 {P : Program} {w : World} {K : PySem.W.Frag} {mg : Str → Option Value} {base : Heap} {x qual : Str} {st : Stmt} {f : Addr} {fd : FuncData} {N ps : List Str} {pv : Str} {k : Nat} {b : EM Fl}
    (Fd : FunD K x qual (defArgs st) (defBody st) (defScope st) [] [] f fd) (S : FnScope N (ps ++ [pv]) (defScope st))
    (hbnd : ∀ (kV doc pm : Value) (an : Option Addr) (cdv ct : Value) (us rest : List Value), us.length = ps.length → bindArgs (PySem.W.fnOf x qual (defArgs st) (defBody st) (defScope st) .none kV doc pm an cdv ct) ⟨us ++ rest, []⟩ = (newTuple rest >>= fun t => pure (ps.zip us ++ [(pv, t)])))
    (hb : ∀ (cdv : Value) (A : Around) (outer : List Env) (s : Shared) (H : Hp) (E : XK), Room k (A.deeper (envOfC qual (defScope st) s.heap.objs.size f cdv)) →
      PSs (cxOf CX0 P w K mg base N qual (defScope st) f cdv A outer s H E).nox (defBody st) (tS K mg W0 b)) : FnR P w K mg base CX0 (k + 1) f (sp0 K mg (fStar ps.length (fOf (ps.length + 1) N.length b))) := by
  obtain ⟨oc, od, dV, kV, doc, pm, an, cdv, ct, osl, rfl, lk, hcd, hD, _⟩ := Fd.ex
  rcases hD with ⟨_, rfl⟩ | ⟨e, _⟩
  · have G := StX.fn_star (P := P) (w := w) (mg := mg) (base := base) (CX := CX0) (k := k) (sp := sp0 K mg (fOf (ps ++ [pv]).length N.length b)) lk hcd S (fun _ _ _ _ _ _ _ _ _ _ _ z => z.elim) (hbnd kV doc pm an cdv ct) (fun A outer s H vs Q E hr h => fn0b hb cdv A outer s H vs Q E hr h)
    refine G.imp fun vs H Q E ⟨T, F, as, sr, h⟩ => ?_
    unfold fStar at h
    cases z : frzs as with
    | none => rw [z] at h; exact h.elim
    | some ds =>
      rw [z] at h
      have ea := frzs_eq z
      dsimp only at h
      by_cases q : ps.length ≤ ds.length ∧ ds.length ≤ LIM
      · rw [if_pos q] at h
        rw [ea] at sr h
        have rl := sr_repl sr
        have hl := rl.length
        refine ⟨vs.take ps.length, vs.drop ps.length, (List.take_append_drop ..).symm, by rw [List.length_take]; omega, lim_line (by rw [List.length_drop]; omega), fun p np => ?_⟩
        have gr : Grow F H (upd F p (.tup (vs.drop ps.length))) (upd H p (.tup (vs.drop ps.length))) := Grow.new sr.sub np
        have sr' := sr.grow gr
        have e1 : (ps ++ [pv]).length = ps.length + 1 := by rw [List.length_append, List.length_singleton]
        rw [e1]
        refine call0_fz sr' (RepL.append ((rl.take ps.length).mono gr.f) (.cons (rep_tup_mk (rl.drop ps.length) (sr.sub.free np)) .nil)) (Post.mono gr.f h) E
      · rw [if_neg q] at h
        exact h.elim
  · exact absurd rfl e
end DL

set_option Elab.async false
set_option linter.all false
set_option maxRecDepth 100000
set_option maxHeartbeats 4000000
/-! DR10: a def whose answer is a new list of one's own; two comparisons in one. -/
namespace DL
open PySem PySem.Spec L2
open PyProof.Rows hiding St
abbrev FO : Type := List D → R (List D)
def fOO (n N : Nat) (g : EM (List D)) : FO := fun ds => if ds.length = n then g (ds.map .fz ++ List.replicate (N - n) .no) else .bad
def okO (K : PySem.W.Frag) (mg : Str → Option Value) (F H : Hp) (Q : VK) : R (List D) → Prop
  | .ok xs _ => ∀ a vs' F' H', Grow F H F' H' → F' a = none → H a = none → H' a = some (.lst vs') → RepL K mg F' xs vs' → Q (.ref a) H'
  | _ => False
def spO (K : PySem.W.Frag) (mg : Str → Option Value) (fs : FO) : Sp := fun vs H Q _ => ∃ F ds, Same F H ∧ RepL K mg F ds vs ∧ okO K mg F H Q (fs ds)
theorem fnO {P : Program} {w : World} {K : PySem.W.Frag} {mg : Str → Option Value} {base : Heap} {x qual : Str} {st : Stmt} {f : Addr} {fd : FuncData} {N ps : List Str} {k : Nat} {g : EM (List D)} {dvs : List V} {kws : List (Str × V)} {e : Expr} {pos : Pos}
    (Fd : FunD K x qual (defArgs st) (defBody st) (defScope st) dvs kws f fd) (S : FnScope N ps (defScope st)) (hbd : defBody st = [.Return (some e) pos])
    (hb : ∀ (cdv : Value) (A : Around) (outer : List Env) (s : Shared) (H : Hp) (E : XK), Room k (A.deeper (envOfC qual (defScope st) s.heap.objs.size f cdv)) →
      PE (cxOf CX0 P w K mg base N qual (defScope st) f cdv A outer s H E).nox e (tO K mg W0 g)) : FnOk P w K mg base CX0 (k + 1) f fd ps (spO K mg (fOO ps.length N.length g)) := by
  refine Fd.ok S (fun vs H Q E h => ?_) (fun cdv A outer s H vs Q E hr h => ⟨_, by rw [hbd]; exact (pss_one (ps_ret (hb cdv A outer s H E hr))).nox, ?_⟩)
  · obtain ⟨F, ds, s, rl, h⟩ := h
    unfold fOO at h
    by_cases z : ds.length = ps.length
    · rw [← z, rl.length]
    · rw [if_neg z] at h
      exact h.elim
  · obtain ⟨F, ds, s, rl, h⟩ := h
    unfold fOO at h
    by_cases z : ds.length = ps.length
    · rw [if_pos z] at h
      have e : L2.start N vs = vs.map some ++ List.replicate (N.length - ps.length) none := by
        unfold L2.start
        rw [rl.length, z]
      rw [e]
      have sr := (SR.args s rl).pad (N.length - ps.length)
      refine ⟨_, F, _, sr, ?_⟩
      cases q : g (ds.map .fz ++ List.replicate (N.length - ps.length) .no) with
      | bad => rw [q] at h; exact h.elim
      | ex c ns es ρ' => rw [q] at h; exact h.elim
      | ok xs ρ' =>
        rw [q] at h
        rintro b F' H' sf sr' ⟨a, vs', eb, nF, hH, rx, np, no⟩
        subst eb
        have gr : Grow F H F' H' := by
          refine ⟨sf, fun c o e => ?_, sr'.sub, fun c o e n => sr'.pf c o (show rest F H (fun _ => False) c = some o from rest_of e n id)⟩
          cases q : F c with
          | none => exact sr'.pr c o (show rest F H (fun _ => False) c = some o from rest_of e q id)
          | some u =>
            have : u = o := by
              have := s c u q
              rw [e] at this
              exact (Option.some.inj this).symm
            rw [← this]
            exact sr'.sub c u (sf c u q)
        refine h a vs' F' H' gr nF ?_ hH rx
        cases y : H a with
        | none => rfl
        | some o =>
          cases y2 : F a with
          | some u =>
            have := sf a u y2
            rw [nF] at this
            cases this
          | none =>
            have : rest F H (fun _ => False) a = some o := rest_of y y2 id
            have np : rest F H (fun _ => False) a = none := np
            rw [this] at np
            cases np
    · rw [if_neg z] at h
      exact h.elim
def callOO (fs : FO) (ds : List D) : EM (List D) := fun ρ => match fs ds with
  | .ok xs _ => .ok xs ρ
  | _ => .bad
def eCallOO (fs : FO) (fa : EM (List D)) : EM (List D) := fa.bind (callOO fs)
section
variable {X : Cx} {W : WX} {k : Nat} {f : Addr} {fs : FO} {x : Str} {p pos : Pos} {e : Expr} {es : List Expr} {fa : EM (List D)}
theorem do_call (G : FnR X.prog X.w X.K X.mg X.base CX0 k f (spO X.K X.mg fs)) (hr : Room k X.A) (hg : Gl X x) (hm : X.mg x = some (.ref f)) (hk : PySem.W.keepIn X.K (.ref f) = true) (ha : PA X (e :: es) (tA X.K X.mg W fa))
    (hdb : (x == ("__debug__" : Str)) = false := by decide) (he : starEach (e :: es) X.env = (false, eval e X.env) :: starEach es X.env := by rfl) (hpl : (backTo pos (starEach es X.env)).any (·.1) = false := by rfl) :
    PE X (.Call (.Name x p) (e :: es) [] pos) (tO X.K X.mg W (eCallOO fs fa)) :=
  (pe_callG (W := W) G hr hg hm hk lets0 ha hdb he hpl).imp fun σ H Q ⟨T, F, ρ, sr, h⟩ => ⟨T, F, ρ, sr, (Post.bind h).imp fun vs H1 ⟨ds, F1, ρ1, sr1, r, h1⟩ => by
    refine ⟨F1, ds, sr1.sub, r, ?_⟩
    unfold callOO at h1
    cases z : fs ds with
    | bad => rw [z] at h1; exact h1.elim
    | ex c ns es ρ' => rw [z] at h1; exact h1.elim
    | ok xs ρ' =>
      rw [z] at h1
      intro a vs' F' H' gr nF nH hH rx
      refine h1 (.ref a) F' H' gr.f (sr1.grow gr) ⟨a, vs', rfl, nF, hH, rx, sr1.pr.free nH, fun i o e => ?_⟩
      obtain ⟨a', u, e1, _, q⟩ := sr1.at_ o
      rw [e] at e1
      cases e1
      rw [nH] at q
      cases q⟩
end
/-! ### a op b op' c -/
def chLast (g' : D → D → Option Bool) (y : D) (fc : EM D) : EM D := fc.bind fun z => EM.opt (gB g' y z)
def chRes (g g' : D → D → Option Bool) (fc : EM D) (x y : D) : EM D := match g x y with
  | none => fun _ => .bad
  | some true => chLast g' y fc
  | some false => EM.ret (.bl false)
def eChain (g g' : D → D → Option Bool) (fa fb fc : EM D) : EM D := fa.bind fun x => fb.bind fun y => chRes g g' fc x y
section
variable {X : Cx} {W : WX} {a b c : Expr} {fa fb fc : EM D} {pos : Pos} {op op' : CmpOp} {r r' : R2} {g g' : D → D → Option Bool}
theorem de_chain (ho : OpR X (compareOp op) r) (hg : OpD X.K X.mg r (gB g)) (ho' : OpR X (compareOp op') r') (hg' : OpD X.K X.mg r' (gB g')) (ha : PE X a (tE X.K X.mg W fa)) (hb : PE X b (tE X.K X.mg W fb)) (hc : PE X c (tE X.K X.mg W fc))
    (hm : lastMarks [op, op'] [b, c] = false := by with_unfolding_all rfl) : PE X (.Compare a [op, op'] [b, c] pos) (tE X.K X.mg W (eChain g g' fa fb fc)) :=
  (pe_chain ho ho' ha hb hc hm).imp fun σ H Q ⟨T, F, ρ, sr, h⟩ => ⟨T, F, ρ, sr, (Post.bind h).imp fun v H1 ⟨x, F1, ρ1, sr1, rx, h1⟩ => ⟨T, F1, ρ1, sr1, (Post.bind' h1).imp fun w H2 ⟨y, F2, ρ2, _, s2, sr2, ry, h2⟩ => by
    unfold chRes at h2
    cases z : g x y with
    | none => rw [z] at h2; exact h2.elim
    | some k =>
      rw [z] at h2
      refine hg F2 H2 x y v w (.bl k) _ sr2.sub (Rep.mono s2 rx) ry (by unfold gB; rw [z]; rfl) fun u F3 H3 gr ru => ⟨k, rep_bl.mp ru, ?_⟩
      cases k with
      | false => exact iteF (h2.ok_grow sr2 gr (rep_bl.mpr rfl))
      | true =>
        refine iteT ⟨T, F3, ρ2, sr2.grow gr, (Post.bind' (Post.mono gr.f h2)).imp fun w' H4 ⟨z', F4, ρ4, _, s4, sr4, rz, h4⟩ => ?_⟩
        unfold EM.opt at h4
        cases q : gB g' y z' with
        | none => rw [q] at h4; exact h4.elim
        | some d =>
          rw [q] at h4
          exact hg' F4 H4 y z' w w' d Q sr4.sub (Rep.mono s4 (Rep.mono gr.f ry)) rz q fun u' F' H' gr' ru' => h4.ok_grow sr4 gr' ru'⟩⟩
end
end DL
namespace DL
open PySem PySem.Spec L2
open PyProof.Rows hiding St
theorem dt_cmpO {X : Cx} {W : WX} {C g : Addr} {fs fa fb : EM D} {k : Nat} {cop : CmpOp} {a b : Expr} {c : Str} {pos : Pos} (hop : ∀ a b, compareOp cop a b = richCompare cop a b) (nf : PySem.W.notFirst X.K C (.ref C) = true) (hm : X.mg c = some (.ref C)) (d : DunD X.K C (cmpInfo cop).2.1 g) (G : FnR X.prog X.w X.K X.mg X.base CX0 k g (sp0 X.K X.mg fs)) (hr : Room k X.A) (ha : PE X a (tE X.K X.mg W fa)) (hb : PE X b (tE X.K X.mg W fb)) (hbm : behindInMarks cop b = false := by rfl) :
    PT X (.Compare a [cop] [b] pos) (tT X.K X.mg W ((eOwn (pOO c) false fs fa fb).bind toB)) :=
  (pt_cmpR (op_cmpO hop nf d G hr) ha hb hbm).imp fun σ H Q ⟨T, F, ρ, sr, h⟩ => own_go (sw := false) (go_OO hm) σ H _ ⟨T, F, ρ, sr, (Post.bind h).imp fun v H1 ⟨x, F1, ρ1, sr1, rx, h1⟩ => by
    cases x with
    | bl q => exact ⟨q, rep_bl.mp rx, h1.ok_of sr1 rfl⟩
    | _ => exact h1.elim⟩
theorem dt_chain {X : Cx} {W : WX} {a b c : Expr} {fa fb fc : EM D} {pos : Pos} {op op' : CmpOp} {r r' : R2} {g g' : D → D → Option Bool} (h : PE X (.Compare a [op, op'] [b, c] pos) (tE X.K X.mg W (eChain g g' fa fb fc))) : True := trivial
end DL
namespace DL
open PySem PySem.Spec L2
open PyProof.Rows hiding St
theorem de_propE {X : Cx} {W : WX} {k : Nat} {C g p' : Addr} {fs : EM D} {c f : Str} {pos : Pos} {e : Expr} {fe : EM D} (kc : ClsD X.K X.mg c C) (hp : PropOf X.K C f p' g) (G : ∃ fd ps, FnOk X.prog X.w X.K X.mg X.base CX0 k g fd ps (sp0 X.K X.mg fs) ∧ Binds X.K fd ps []) (hr : Room (k + 1) X.A) (he : PE X e (tE X.K X.mg W fe))
    (hab : attributeBase e f X.env (eval e X.env) = eval e X.env := by rfl) : PE X (.Attribute e f pos) (tE X.K X.mg W (eProp c fs fe)) := by
  obtain ⟨fd, ps, G, hb⟩ := G
  exact de_prop kc hp G hr hb he hab
end DL

set_option Elab.async false
set_option linter.all false
set_option maxRecDepth 100000
set_option maxHeartbeats 4000000
/-! HW: a Hook over the objects that the globals name: facts as truths, defs, tables of text keys. -/
namespace HW
open PySem PySem.Spec L2 He DL
open PyProof.Rows hiding St
def recT (o : Obj) : Bool := match o.cls with
  | .type c => decide (c = "property") || (decide (c = "classmethod") || decide (c = "staticmethod"))
  | _ => false
def refsN (o : Obj) : List Addr := match o.data with
  | .seq its _ => its.toList.flatMap refV
  | .dict es _ => es.toList.flatMap fun e => refV e.val
  | .func fd => refV fd.code ++ refV fd.defaults
  | .cls cd => [cd.ns]
  | .fields vs => (match recT o with
    | true => vs.toList.flatMap refV
    | false => [])
  | _ => []
def exN (g : Addr → Option Obj) (as : List Addr) : List Addr := as.flatMap fun a => match g a with
  | some o => refsN o
  | none => []
def frL {α : Type} : List Nat → (List Nat → α) → α
  | [], k => k []
  | a :: l, k => HandSHeadRun.frNat a fun a => frL l fun l => k (a :: l)
def asW (g : Addr → Option Obj) : List Addr := frL (exN g [mainGlobals]) fun l1 => frL (exN g l1) fun l2 => frL (exN g l2) fun l3 => frL (exN g l3) fun l4 => frL (exN g l4) fun l5 => mainGlobals :: cStatics :: (l1 ++ (l2 ++ (l3 ++ (l4 ++ l5))))
abbrev Fact : Type := PySem.W.Frag → Bool
def obsW (fa : List Fact) (fn : List He5.DefA) (ts : List Tab) (K : PySem.W.Frag) : AlT := (((fa.all fun f => f K) && fn.all fun d => d.ok K, fn.map fun d => He5.fnA K (d.at_ K)), ts.map fun t => dicW K (t.1 K))
def valW (fn : List He5.DefA) (ts : List Tab) (w : World) : AlT := ((true, fn.map He5.DefA.val), ts.map fun t => some (keysIn w.params t.2))
def SaysW (fa : List Fact) (fn : List He5.DefA) (ts : List Tab) (w : World) (K : PySem.W.Frag) : Prop := obsW fa fn ts K = valW fn ts w
def obsWG (fa : List Fact) (fn : List He5.DefA) (ts : List Tab) (g : Addr → Option Obj) : AlT := obsW fa fn ts (frG g (asW g))
def hookW (fa : List Fact) (fn : List He5.DefA) (ts : List Tab) : PySem.W.Hook where
  α := AlT
  obs := fun s => obsWG fa fn ts s.heap.get?
  val := fun w => valW fn ts w
  says := fun w h => ∃ K : PySem.W.Frag, K.In h ∧ SaysW fa fn ts w K
  of := fun _ _ e => ⟨_, frG_in, e⟩
  keeps := fun _ _ _ ⟨K, hK, c⟩ k => ⟨K, PySem.W.Frag.In.keeps hK k, c⟩
theorem obsWG_eq {fa : List Fact} {fn : List He5.DefA} {ts : List Tab} {g : Addr → Option Obj} {s : Shared} (h : ∀ a, g a = s.heap.get? a) : obsWG fa fn ts g = (hookW fa fn ts).obs s := by
  have e : g = s.heap.get? := funext h
  rw [e] <;> rfl
section
variable {fa : List Fact} {fn : List He5.DefA} {ts : List Tab} {w : World} {K : PySem.W.Frag}
theorem SaysW.fact (c : SaysW fa fn ts w K) (i : Nat) {f : Fact} (h : fa[i]? = some f := by rfl) : f K = true := by
  have c1 := (ba (show ((fa.all fun f => f K) && fn.all fun d => d.ok K) = true from congrArg (fun z : AlT => z.1.1) c)).1
  exact List.all_eq_true.mp c1 f (List.mem_of_getElem? h)
theorem SaysW.def_ (c : SaysW fa fn ts w K) (i : Nat) {d : He5.DefA} (h : fn[i]? = some d := by rfl) : ∃ fd, L2.FunD K d.name d.qual d.params d.body d.scope (d.dvs K) (d.kws K) (d.at_ K) fd := by
  have c2 := (ba (show ((fa.all fun f => f K) && fn.all fun d => d.ok K) = true from congrArg (fun z : AlT => z.1.1) c)).2
  have e : fn.map (fun d => He5.fnA K (d.at_ K)) = fn.map He5.DefA.val := congrArg (fun z : AlT => z.1.2) c
  have e2 : (fn.map fun d => He5.fnA K (d.at_ K))[i]? = (fn.map He5.DefA.val)[i]? := by rw [e]
  rw [List.getElem?_map, List.getElem?_map, h] at e2
  exact He5.DefA.funD (Option.some.inj e2) (List.all_eq_true.mp c2 d (List.mem_of_getElem? h))
theorem SaysW.tab (c : SaysW fa fn ts w K) (i : Nat) {t : Tab} (h : ts[i]? = some t := by rfl) : ∃ es n, KDict K w (t.1 K) es n := by
  have e : ts.map (fun t => dicW K (t.1 K)) = ts.map fun t => some (keysIn w.params t.2) := congrArg (fun z : AlT => z.2) c
  have e2 : (ts.map fun t => dicW K (t.1 K))[i]? = (ts.map fun t => some (keysIn w.params t.2))[i]? := by rw [e]
  rw [List.getElem?_map, List.getElem?_map, h] at e2
  exact dicW_ok (Option.some.inj e2)
end
/-! ### facts as truths -/
def fGlo (x : Str) : Fact := fun K => (Fa.glo x).ok K
def fFree (x : Str) : Fact := fun K => (Fa.free x).ok K
def fInt (x : Str) (i : Int) : Fact := fun K => (Fa.int x i).ok K
def fKeep (x : Str) : Fact := fun K => (Fa.keep x).ok K
def fCls (x : Str) : Fact := fun K => (Fa.cls x).ok K
def fNoat (x f : Str) : Fact := fun K => (Fa.noat x f).ok K
def fMeth (x m : Str) : Fact := fun K => (Fa.meth x m).ok K
def fMkr (x : Str) : Fact := fun K => (Fa.mkr x).ok K
/-- the record of a property -/
def fProp (x f : Str) : Fact := fun K => eqO (PySem.W.findIn K (.ref (ga K x)) f) (some (some (.ref (ma K (ga K x) f)))) && (eqO (PySem.W.specialIn K (.ref (ma K (ga K x) f)) "__get__") (some (some (.builtin "property.__get__"))) &&
  (decide (PySem.W.takesIn K (.ref (ma K (ga K x) f)) = some true) && (match PySem.W.recIn K (ma K (ga K x) f) "property" with
    | some (.ref _ :: _) => true
    | _ => false)))
theorem prop_ok {K : PySem.W.Frag} {x f : Str} (h : fProp x f K = true) : PropOf K (ga K x) f (ma K (ga K x) f) (He5.wf K (ga K x) "property" f) := by
  obtain ⟨h1, h⟩ := ba h
  obtain ⟨h2, h⟩ := ba h
  obtain ⟨h3, h4⟩ := ba h
  refine ⟨eqO_ok h1, eqO_ok h2, of_decide_eq_true h3, ?_⟩
  unfold He5.wf
  split at h4
  · rename_i a r e
    exact ⟨r, by rw [e]⟩
  · cases h4
/-- a class that is read as one; its classmethod m -/
def fRead (x : Str) : Fact := fun K => PySem.W.readsIn K (ga K x) (.type "type")
theorem read_ok {K : PySem.W.Frag} {x : Str} (h : fRead x K = true) : ClX.CRead K (ga K x) (.type "type") := by
  refine ⟨h, ?_⟩
  unfold fRead PySem.W.readsIn at h
  obtain ⟨h, _⟩ := ba h
  obtain ⟨h, _⟩ := ba h
  obtain ⟨h, h3⟩ := ba h
  obtain ⟨_, h2⟩ := ba h
  unfold PySem.W.specialIn
  rw [beq_iff_eq.mp h2, Option.bind_some]
  exact beq_iff_eq.mp h3
def fCm (x m : Str) : Fact := fun K => He5.wrapB K (ga K x) "classmethod" "classmethod.__get__" m && PySem.W.fnIn K (He5.wf K (ga K x) "classmethod" m)
theorem cm_ok {K : PySem.W.Frag} {x m : Str} (h : fCm x m K = true) : ClX.CMet K (ga K x) (.type "type") m (ma K (ga K x) m) (He5.wf K (ga K x) "classmethod" m) := He5.cmet_of (ba h).1 (ba h).2
/-- a def under a name of the class -/
def fDun (x m : Str) : Fact := fun K => eqO (PySem.W.findIn K (.ref (ga K x)) m) (some (some (.ref (ma K (ga K x) m)))) && PySem.W.isFn K (.ref (ma K (ga K x) m))
theorem dun_ok {K : PySem.W.Frag} {x m : Str} (h : fDun x m K = true) : DunD K (ga K x) m (ma K (ga K x) m) := ⟨eqO_ok (ba h).1, (ba h).2⟩
def fCall (x : Str) : Fact := fun K => fDun x "__call__" K && PySem.W.fnIn K (ma K (ga K x) "__call__")
theorem call_ok {K : PySem.W.Frag} {x : Str} (h : fCall x K = true) : StX.CallO K (ga K x) (ma K (ga K x) "__call__") := ⟨(dun_ok (ba h).1).at_, (dun_ok (ba h).1).fn, (ba h).2⟩
def fSelf (x : Str) : Fact := fun K => PySem.W.selfFirst K (ga K x)
def fNotF (x : Str) : Fact := fun K => PySem.W.notFirst K (ga K x) (.ref (ga K x))
def fIntR (x : Str) (nm : String) : Fact := fun K => (match PySem.W.findIn K (.ref (ga K x)) (dunderR nm) with
    | some none => true
    | some (some (.ref _)) => true
    | _ => false) && ((PySem.W.findIn K (.type "int") (PySem.dunder nm)).isSome && ((PySem.W.findIn K (.type "int") (dunderR nm)).isSome && decide (PySem.W.subIn K (.type "int") (.ref (ga K x)) = some false)))
theorem intR_ok {K : PySem.W.Frag} {x : Str} {nm : String} (h : fIntR x nm K = true) : IntR K (ga K x) nm := by
  obtain ⟨h1, h⟩ := ba h
  obtain ⟨h2, h⟩ := ba h
  obtain ⟨h3, h4⟩ := ba h
  refine ⟨?_, Option.isSome_iff_exists.mp h2, Option.isSome_iff_exists.mp h3, of_decide_eq_true h4⟩
  split at h1
  · rename_i e; exact ⟨_, e, .inl rfl⟩
  · rename_i a e; exact ⟨_, e, .inr ⟨a, rfl⟩⟩
  · cases h1
def fNoInt (x : Str) : Fact := fun K => decide (PySem.W.subIn K (.ref (ga K x)) (.type "int") = some false)
def fIsi (x : Str) : Fact := fun K => fCls x K && (eqO (PySem.W.findIn K (.ref (ga K x)) "__class__") (some (some (.builtin "object.__class__"))) && (eqO (PySem.W.specialIn K (.builtin "object.__class__") "__get__") (some (some (.builtin "getset_descriptor.__get__"))) &&
  (decide (PySem.W.takesIn K (.builtin "object.__class__") = some true) && decide (PySem.W.mroIn K (ga K x) (.type "object") = some true))))
theorem isi_ok {K : PySem.W.Frag} {x : Str} (h : fIsi x K = true) : IsiC K (ga K x) := by
  obtain ⟨h1, h⟩ := ba h
  obtain ⟨h2, h⟩ := ba h
  obtain ⟨h3, h⟩ := ba h
  obtain ⟨h4, h5⟩ := ba h
  exact ⟨cls_ok h1, eqO_ok h2, eqO_ok h3, of_decide_eq_true h4, of_decide_eq_true h5⟩
theorem clsD_ok {K : PySem.W.Frag} {h : Heap} {mg : Str → Option Value} {x : Str} (X : K.In h) (G : h.Ns mainGlobals mg) (c : fGlo x K = true) (d : fCls x K = true) : ClsD K mg x (ga K x) := ⟨glo_ok X G c, cls_ok d⟩
/-- the object at a is a tuple of these texts -/
def strsB : List Value → List Str → Bool
  | [], [] => true
  | .str x _ :: vs, y :: ys => decide (x = y) && strsB vs ys
  | _, _ => false
theorem strsB_ok : ∀ {vs : List Value} {ys : List Str}, strsB vs ys = true → Vals (ys.map V.str) vs
  | [], [], _ => .nil
  | [], _ :: _, h => by cases h
  | v :: vs, ys, h => by
    cases v <;> cases ys <;> first | cases h | skip
    rename_i x t y ys
    obtain ⟨h1, h2⟩ := ba h
    have e := of_decide_eq_true h1
    subst e
    exact .cons ⟨t, rfl⟩ (strsB_ok h2)
def tupB (K : PySem.W.Frag) (a : Addr) (ys : List Str) : Bool := match K.lookup a with
  | some ⟨.type c, none, .seq its _, _⟩ => decide (c = "tuple") && (decide (its.size ≤ 1000) && strsB its.toList ys)
  | _ => false
theorem tupB_ok {K : PySem.W.Frag} {a : Addr} {ys : List Str} (h : tupB K a ys = true) : ∃ o, K.lookup a = some o ∧ o.cls = .type "tuple" ∧ o.dict = none ∧ ∀ H, SqT K H a (ys.map V.str) := by
  unfold tupB at h
  split at h
  · rename_i c its n sl e
    obtain ⟨h1, h⟩ := ba h
    obtain ⟨h2, h3⟩ := ba h
    have e1 := of_decide_eq_true h1
    have e2 := of_decide_eq_true h2
    subst e1
    exact ⟨_, e, rfl, rfl, fun H => .inr ⟨_, its, n, e, rfl, rfl, by rw [sizeLine_eq]; omega, strsB_ok h3⟩⟩
  · cases h
def fTup (x : Str) (ys : List Str) : Fact := fun K => fGlo x K && tupB K (ga K x) ys
theorem tup_ok {K : PySem.W.Frag} {h : Heap} {mg : Str → Option Value} {x : Str} {ys : List Str} (X : K.In h) (G : h.Ns mainGlobals mg) (c : fTup x ys K = true) : TupK K mg x ys := by
  obtain ⟨c1, c2⟩ := ba c
  obtain ⟨o, h1, h2, h3, h4⟩ := tupB_ok c2
  exact ⟨_, o, glo_ok X G c1, h1, h2, h3, h4⟩
theorem repL_strs {K : PySem.W.Frag} {mg : Str → Option Value} {F : Hp} : ∀ {ys : List Str}, RepL K mg F (ys.map D.str) (ys.map V.str)
  | [] => .nil
  | y :: ys => .cons (rep_str.mpr rfl) repL_strs
theorem con_tup {K : PySem.W.Frag} {mg : Str → Option Value} {x : Str} {ys : List Str} (t : TupK K mg x ys) : ConD K mg x (.tup (ys.map .str)) := by
  obtain ⟨a, o, h1, _, _, _, h4⟩ := t.ex
  refine ⟨.ref a, .ref a, h1, rfl, fun F => ?_⟩
  unfold Rep
  exact ⟨a, _, rfl, h4 F, repL_strs⟩
theorem con_int {K : PySem.W.Frag} {h : Heap} {mg : Str → Option Value} {x : Str} {i : Int} (X : K.In h) (G : h.Ns mainGlobals mg) (c : fInt x i K = true) : ConD K mg x (.int i) := by
  obtain ⟨t, e⟩ := int_ok X G c
  exact ⟨.int i, _, e, ⟨t, rfl⟩, fun F => rep_int.mpr rfl⟩
theorem con_cls {K : PySem.W.Frag} {mg : Str → Option Value} {x : Str} {C : Addr} (c : mg x = some (.ref C)) : ConD K mg x (.cls x) := ⟨.ref C, _, c, rfl, fun F => by unfold Rep; exact ⟨C, rfl, c⟩⟩
/-- the values of a table: texts, tuples of texts -/
inductive Tv where
  | str (z : Str) | tup (ys : List Str)
def Tv.d : Tv → D
  | .str z => .str z
  | .tup ys => .tup (ys.map .str)
def tvB (K : PySem.W.Frag) (u : Value) : Tv → Bool
  | .str z => (match u with
    | .str x _ => decide (x = z)
    | _ => false)
  | .tup ys => (match u with
    | .ref a => tupB K a ys
    | _ => false)
theorem tvB_ok {K : PySem.W.Frag} {mg : Str → Option Value} {u : Value} {t : Tv} (h : tvB K u t = true) : ∃ v, RelV v u ∧ ∀ F, Rep K mg F t.d v := by
  cases t with
  | str z =>
    cases u <;> first | cases h | skip
    rename_i x t
    have e : x = z := of_decide_eq_true h
    subst e
    exact ⟨.str x, ⟨t, rfl⟩, fun F => rep_str.mpr rfl⟩
  | tup ys =>
    cases u <;> first | cases h | skip
    rename_i a
    obtain ⟨o, h1, h2, h3, h4⟩ := tupB_ok (show tupB K a ys = true from h)
    refine ⟨.ref a, rfl, fun F => ?_⟩
    show Rep _ _ _ (.tup (ys.map .str)) _
    unfold Rep
    exact ⟨a, _, rfl, h4 F, repL_strs⟩
def fTab (x : Str) (t : List (Str × Tv)) : Fact := fun K => fGlo x K && t.all fun q => match PySem.W.nsIn K (ga K x) q.1 with
  | some (some u) => tvB K u q.2
  | _ => false
theorem lookup_map {α β : Type} {f : α → β} {z : Str} : ∀ {t : List (Str × α)} {d : β}, (t.map fun q => (q.1, f q.2)).lookup z = some d → ∃ a, (z, a) ∈ t ∧ d = f a
  | [], d, h => by cases h
  | (y, a) :: t, d, h => by
    have h : (match z == y with | true => some (f a) | false => (t.map fun q => (q.1, f q.2)).lookup z) = some d := h
    cases q : z == y with
    | true =>
      rw [q] at h
      refine ⟨a, ?_, (Option.some.inj h).symm⟩
      rw [beq_iff_eq.mp q]
      exact List.mem_cons_self ..
    | false =>
      rw [q] at h
      obtain ⟨b, h1, h2⟩ := lookup_map h
      exact ⟨b, List.mem_cons_of_mem _ h1, h2⟩
theorem tab_ok {K : PySem.W.Frag} {w : World} {h : Heap} {mg : Str → Option Value} {x : Str} {t : List (Str × Tv)} (X : K.In h) (G : h.Ns mainGlobals mg) (c : fTab x t K = true) (kd : ∃ es n, KDict K w (ga K x) es n) : TabD K mg w x (t.map fun q => (q.1, q.2.d)) := by
  obtain ⟨c1, c2⟩ := ba c
  refine ⟨_, glo_ok X G c1, fun z d hz => ?_⟩
  obtain ⟨v, hm, e⟩ := lookup_map (f := Tv.d) hz
  have c3 := List.all_eq_true.mp c2 (z, v) hm
  obtain ⟨es, n, k⟩ := kd
  dsimp only at c3
  cases q : PySem.W.nsIn K (ga K x) z with
  | none => rw [q] at c3; cases c3
  | some r =>
    rw [q] at c3
    cases r with
    | none => cases c3
    | some u =>
      obtain ⟨y, r1, r2⟩ := tvB_ok (mg := mg) (show tvB K u v = true from c3)
      refine ⟨y, ⟨es, n, u, k.at_, k.lit, q, r1⟩, fun F => ?_⟩
      rw [e]
      exact r2 F
end HW

set_option Elab.async false
set_option linter.all false
set_option maxRecDepth 100000
set_option maxHeartbeats 4000000
/-! DX1: C(e, ..) where C's __init__ says super().__init__('..') and stores its parameters, C over classes of the program over ValueError. -/
namespace DL
open PySem PySem.Spec L2
open PyProof.Rows hiding St
/-! ### self.f = f, one behind another -/
def asgB : List Stmt → List Str → Bool
  | [], [] => true
  | .Assign [.Attribute (.Name s _) f' _] (.Name g _) _ :: r, f :: fs => decide (s = "self") && (decide (f' = f) && (decide (g = f) && asgB r fs))
  | _, _ => false
theorem asgB_cons {st : Stmt} {r : List Stmt} {f : Str} {fs : List Str} (h : asgB (st :: r) (f :: fs) = true) : ∃ p1 p2 p3 p4, st = .Assign [.Attribute (.Name "self" p1) f p2] (.Name f p3) p4 ∧ asgB r fs = true := by
  unfold asgB at h
  split at h
  · rename_i e; cases e
  · rename_i e1 e2
    cases e1
    cases e2
    obtain ⟨h1, h⟩ := Bool.and_eq_true_iff.mp h
    obtain ⟨h2, h⟩ := Bool.and_eq_true_iff.mp h
    obtain ⟨h3, h4⟩ := Bool.and_eq_true_iff.mp h
    have h1 := of_decide_eq_true h1
    have h2 := of_decide_eq_true h2
    have h3 := of_decide_eq_true h3
    subst h1
    subst h2
    subst h3
    exact ⟨_, _, _, _, rfl, h4⟩
  · cases h
/-- an exception's object -/
abbrev eo (C t1 : Addr) (d : Option Addr) : Obj := { cls := .ref C, dict := d, data := .fields #[.ref t1, .none, .none, .none, .bool false, .none] }
/-- its dict, once it has one -/
def DctAt (h : Heap) (base : Heap) (L e : Addr) (d : Option Addr) (done : List (Str × Value)) : Prop := match d with
  | none => done = []
  | some dx => h.Ns1 dx (fun y => done.lookup y) ∧ base.objs.size ≤ dx ∧ dx ≠ L ∧ dx ≠ e
theorem within_l {done : List (Str × Value)} : Within (fun y => done.lookup y) (done.map (·.1)) := fun y hy => by
  induction done with
  | nil => exact absurd rfl hy
  | cons p l ih =>
    obtain ⟨f, z⟩ := p
    by_cases e : y = f
    · rw [e]; exact List.mem_cons_self ..
    · refine List.mem_cons_of_mem _ (ih fun q => hy ?_)
      have e' : (y == f) = false := by simpa using e
      show List.lookup y ((f, z) :: l) = none
      rw [List.lookup_cons, e']
      exact q
theorem lookup_fun (f : Str) (u : Value) (done : List (Str × Value)) : (fun y => ((f, u) :: done).lookup y) = fun y => if y = f then some u else done.lookup y := by
  funext y
  rw [List.lookup_cons]
  by_cases e : y = f
  · rw [if_pos e, e, beq_self_eq_true]
  · rw [if_neg e, show (y == f) = false by simpa using e]
section
variable {prog : Program} {w : World} {A : Around} {E : Value → Shared → Prop} {env : Env} {K : PySem.W.Frag} {C e t1 : Addr} {cd : ClassData} {base : Heap} {g : Array GenState} {d : Drawn} {os : OsState} {m : Str → Option Value}
theorem fields_run (KB : K.In base) (hcd : PySem.W.clsIn K C = some cd) (hm : PySem.HandSPX.refsVE cd.mro = true) (hh : cd.hasDict = true) (hsa : PySem.W.findIn K (.ref C) "__setattr__" = some (some (.builtin "object.__setattr__")))
    (hk : env.scope.kind = .function) (hself : env.kindOf "self" = some .local) (hse : m "self" = some (.ref e)) (bes : base.objs.size ≤ e) (bL : base.get? env.locals = none) (eL : e ≠ env.locals) :
    ∀ (sts : List Stmt) (fs : List Str) (us : List Value) (d0 : Option Addr) (done : List (Str × Value)) (h : Heap) (t : Nat) (Q : Flow → Shared → Prop), asgB sts fs = true → fs.length = us.length → fs.length + done.length ≤ 100 →
      (∀ f ∈ fs, env.kindOf f = some .local ∧ PySem.W.findIn K (.ref C) f = some none ∧ (f == ("__debug__" : Str)) = false) → (∀ p ∈ fs.zip us, m p.1 = some p.2) →
      (∀ b o, base.get? b = some o → h.get? b = some o) → h.Ns env.locals m → h.get? e = some (eo C t1 d0) → DctAt h base env.locals e d0 done → (fs ≠ [] ∨ d0 ≠ none) →
      (∀ h' t' dx, (∀ b o, base.get? b = some o → h'.get? b = some o) → h'.get? e = some (eo C t1 (some dx)) → h'.Ns1 dx (fun y => ((fs.zip us).reverse ++ done).lookup y) → base.objs.size ≤ dx → dx ≠ e → Q .next ⟨h', g, d, t', os⟩) →
      wpAny (model prog w) A (execs sts env) Q E ⟨h, g, d, t, os⟩
  | [], [], us, d0, done, h, t, Q, _, hl, _, _, _, hb, hn, he, hd, hne, hq => by
    cases d0 with
    | none => rcases hne with z | z <;> exact absurd rfl z
    | some dx =>
      obtain ⟨h1, h2, h3, h4⟩ := hd
      exact wpAny_execs_nil (hq h t dx hb he (by simpa using h1) h2 h4)
  | [], f :: fs, us, d0, done, h, t, Q, ha, _, _, _, _, _, _, _, _, _, _ => by cases ha
  | st :: r, [], us, d0, done, h, t, Q, ha, _, _, _, _, _, _, _, _, _, _ => by
    unfold asgB at ha
    split at ha
    · rename_i e1 _; cases e1
    · rename_i e1 e2; cases e2
    · cases ha
  | st :: r, f :: fs, [], d0, done, h, t, Q, _, hl, _, _, _, _, _, _, _, _, _ => by cases hl
  | st :: r, f :: fs, u :: us, d0, done, h, t, Q, ha, hl, hz, hf, hv, hb, hn, he, hd, hne, hq => by
    obtain ⟨p1, p2, p3, p4, rfl, ha'⟩ := asgB_cons ha
    obtain ⟨f1, f2, f3⟩ := hf f (List.mem_cons_self ..)
    have fu : m f = some u := hv (f, u) (by rw [List.zip_cons_cons]; exact List.mem_cons_self ..)
    have KH : K.In h := KB.keeps hb
    have be : base.get? e = none := Heap.get?_none_of_le bes
    rw [List.length_cons] at hz
    refine wpAny_execs_cons ?_
    refine plainObj_wpAny_Assign_Attribute (PySem.ESX.ldL hn fu ?_ hk f1 f3) rfl
    refine PySem.ESX.ldL hn hse ?_ hk hself
    have next : ∀ h' t' dx, (∀ b o, b ≠ e → (∀ z, d0 = some z → b ≠ z) → h.get? b = some o → h'.get? b = some o) → h'.get? e = some (eo C t1 (some dx)) → h'.Ns1 dx (fun y => ((f, u) :: done).lookup y) → base.objs.size ≤ dx → dx ≠ env.locals → dx ≠ e → (∀ z, d0 = some z → base.get? z = none ∧ env.locals ≠ z) →
        wpAny (model prog w) A (execs r env) Q E ⟨h', g, d, t', os⟩ := fun h' t' dx k he' hn' b1 b2 b3 hd0 => by
      refine fields_run KB hcd hm hh hsa hk hself hse bes bL eL r fs us (some dx) ((f, u) :: done) h' t' Q ha' (Nat.succ.inj hl) (by rw [List.length_cons]; omega) (fun x hx => hf x (List.mem_cons_of_mem _ hx)) (fun p hp => hv p (by rw [List.zip_cons_cons]; exact List.mem_cons_of_mem _ hp)) (fun b o q => ?_) ?_ he' ⟨hn', b1, b2, b3⟩ (.inr (by simp)) fun h2 t2 dx2 k2 he2 hn2 bb2 de2 => hq h2 t2 dx2 k2 he2 ?_ bb2 de2
      · refine k b o (fun z => ?_) (fun z e1 e2 => ?_) (hb b o q)
        · rw [z, be] at q; cases q
        · rw [e2, (hd0 z e1).1] at q; cases q
      · exact hn.at fun o q => k _ o (Ne.symm eL) (fun z e1 => (hd0 z e1).2) q
      · rw [List.zip_cons_cons, List.reverse_cons, List.append_assoc]
        exact hn2
    cases d0 with
    | none =>
      have hdn : done = [] := hd
      subst hdn
      refine PySem.W.set_plain KH (ox := eo C t1 none) (od := none) ⟨he, rfl, rfl, trivial⟩ hsa ?_
      refine PySem.HandSPX.exc_osa KH he hcd hm hh f2 (fun h' tk' dx k dn dne hx hn' => ?_)
      refine next h' tk' dx (fun b o hbe _ q => k b o hbe q) hx ?_ ?_ ?_ dne (fun z q => nomatch q)
      · rw [lookup_fun]
        exact hn'
      · exact Nat.le_trans bes (Nat.le_trans (Nat.le_of_lt (Heap.lt_size he)) dn)
      · intro q
        have := hn.lt
        rw [← q] at this
        exact absurd (Nat.lt_of_lt_of_le this dn) (Nat.lt_irrefl _)
    | some dx =>
      obtain ⟨h1, h2, h3, h4⟩ := hd
      obtain ⟨oD, _, _, hoD, _, _⟩ := h1.count within_l
      refine PySem.W.set_plain KH (ox := eo C t1 (some dx)) (od := some oD) ⟨he, rfl, rfl, hoD⟩ hsa ?_
      refine PySem.OEX.osa_old KH he h1 within_l (by rw [List.length_map]; omega) hcd hm hh f2 (fun h' tk' k hn' => ?_)
      refine next h' tk' dx (fun b o _ hbd q => k b o (hbd dx rfl) q) (k e _ (Ne.symm h4) he) ?_ h2 h3 h4 (fun z q => by cases q; exact ⟨Heap.get?_none_of_le h2, Ne.symm h3⟩)
      rw [lookup_fun]
      exact hn'
end
end DL

set_option Elab.async false
set_option linter.all false
set_option maxRecDepth 100000
set_option maxHeartbeats 4000000
/-! DX2: an error class's __init__ run, the class called. -/
namespace DL
open PySem PySem.Spec L2
open PyProof.Rows hiding St
/-- what the text says of such an __init__ -/
structure ErrFn (params : Arguments) (body : List Stmt) (scope : Scope) (fs : List Str) : Prop where
  kind : scope.kind = .function
  co : scope.isCoroutine = false
  gen : scope.isGenerator = false
  ncell : ∀ x ∈ scope.names, x.2 ≠ .cell
  sup : scope.names.lookup ("super" : Str) = some .globalImplicit
  cls : scope.names.lookup ("__class__" : Str) = some .free
  loc : ∀ f ∈ ("self" : Str) :: fs, scope.names.lookup f = some .local
  dbg : ∀ f ∈ fs, (f == ("__debug__" : Str)) = false
  nself : ("self" : Str) ∉ fs ∧ fs.Nodup
  head : ∃ ar, (params.posonlyargs ++ params.args).head? = some ar ∧ ar.arg = "self"
  bind : ∀ name qual kV doc pm an cdv ct cc us, us.length = fs.length + 1 → bindArgs (PySem.W.ksFn name qual params body scope .none kV doc pm an cdv ct cc) ⟨us, []⟩ = pure ((("self" : Str) :: fs).zip us)
  body : ∃ p0 p1 p2 p3 p4 p5 txt j sts, body = .Expr (.Call (.Attribute (.Call (.Name "super" p0) [] [] p1) "__init__" p2) [.Constant (.str txt) j p3] [] p4) p5 :: sts ∧ asgB sts fs = true ∧
    ∀ env : Env, ∃ pl : Sem Bool, eval (.Call (.Attribute (.Call (.Name "super" p0) [] [] p1) "__init__" p2) [.Constant (.str txt) j p3] [] p4) env = (do
      let ov ← attributeBase (.Call (.Name "super" p0) [] [] p1) "__init__" env (eval (.Call (.Name "super" p0) [] [] p1) env)
      standAt p2.atName
      let (f, first) ← holding [ov] (getMethod ov "__init__" pl)
      callWith p4 f first (backTo p4 (starEach [.Constant (.str txt) j p3] env)) [])
/-- what K holds of the class at C and its __init__ at f -/
structure ErrC (K : PySem.W.Frag) (prog : Program) (C f : Addr) (fs : List Str) : Prop where
  cls : ∃ nm q N bs bm sn sub ab col dd k0 k1 k2 k3 k5, K.lookup C = some (excClassObj nm q C N bs bm true sn sub ab col dd k0 k1 k2 k3 k5 "ValueError.__new__") ∧ PySem.HandSPX.refsVE bm = true ∧ PySem.W.alongIn K "__init__" bm = some (some (.builtin "ValueError.__init__"))
  sa : PySem.W.findIn K (.ref C) "__setattr__" = some (some (.builtin "object.__setattr__"))
  exC : PySem.W.subIn K (.ref C) (.type "BaseException") = some true
  tyC : PySem.W.typeIn K (.ref C) = some (.type "type")
  kC : PySem.W.keepIn K (.ref C) = true
  subV : PySem.W.subIn K (.ref C) (.type "ValueError") = some true
  subC : PySem.W.mroIn K C (.ref C) = some true
  ini : PySem.W.findIn K (.ref C) "__init__" = some (some (.ref f))
  tyI : PySem.W.typeIn K (.ref f) = some (.type "function")
  fn : ∃ (oc : Value) (od : Option Addr) (qual : Str) (params : Arguments) (body : List Stmt) (scope : Scope) (kV doc pm : Value) (an : Option Addr) (cda : Addr) (ct : Value) (cc : Addr) (osl : Array (Option Value)) (ccl : Value) (cdd : Option Addr) (vs : Array Value) (ccs : Array (Option Value)) (file : Str) (tf : Tok) (cl : Value) (cld : Option Addr) (csl : Array (Option Value)),
    K.lookup f = some ⟨oc, od, .func (PySem.W.ksFn "__init__" qual params body scope .none kV doc pm an (.ref cda) ct cc), osl⟩ ∧ PySem.W.codeIn K (.ref cda) qual = true ∧ K.lookup cda = some ⟨ccl, cdd, .fields vs, ccs⟩ ∧ vs[2]? = some (.str file tf) ∧ ((prog.main.file : Str) == file) = true ∧
      K.lookup cc = some ⟨cl, cld, .cell (some (.ref C)), csl⟩ ∧ ErrFn params body scope fs
  sup : PySem.W.nsIn K mainGlobals "super" = some none
  third : PySem.W.nsIn K cStatics "thirdparty.any" = some none
  top : (prog.main.scope.names.lookup ("super" : Str)).isSome = false
  nof : ∀ x ∈ fs, PySem.W.findIn K (.ref C) x = some none
  nn : fs ≠ [] ∧ fs.length ≤ 50
theorem boot_super : bootBuiltins ("super" : Str) = some (.type "super") := by kernel_rfl
theorem zip_rev_lookup {fs : List Str} {us : List Value} (hd : fs.Nodup) : ∀ p ∈ fs.zip us, (fs.zip us).reverse.lookup p.1 = some p.2 := by
  have key : ∀ (l : List (Str × Value)), (l.map (·.1)).Nodup → ∀ p ∈ l, l.reverse.lookup p.1 = some p.2 := by
    intro l
    induction l with
    | nil => intro _ p hp; cases hp
    | cons q l ih =>
      intro hn p hp
      obtain ⟨n1, n2⟩ := List.nodup_cons.mp hn
      rw [List.reverse_cons, List.lookup_append]
      rcases List.mem_cons.mp hp with e | hp
      · subst e
        have : l.reverse.lookup p.1 = none := by
          rw [List.lookup_eq_none_iff]
          intro r hr
          have hr := List.mem_reverse.mp hr
          have : p.1 ≠ r.1 := fun z => n1 (show p.1 ∈ _ by rw [z]; exact List.mem_map_of_mem hr)
          simpa using this
        rw [this]
        show (List.lookup p.1 [p]) = some p.2
        obtain ⟨a, b⟩ := p
        simp [List.lookup]
      · rw [ih n2 p hp]
        rfl
  refine key _ ?_
  have : ∀ (fs : List Str) (us : List Value), ((fs.zip us).map (·.1)).Nodup ∨ ¬ fs.Nodup := by
    intro fs
    induction fs with
    | nil => intro us; exact .inl .nil
    | cons f fs ih =>
      intro us
      cases us with
      | nil => exact .inl .nil
      | cons u us =>
        by_cases z : (f :: fs).Nodup
        · obtain ⟨n1, n2⟩ := List.nodup_cons.mp z
          rcases ih us with h | h
          · left
            rw [List.zip_cons_cons, List.map_cons]
            refine List.nodup_cons.mpr ⟨fun hm => ?_, h⟩
            obtain ⟨q, hq, e⟩ := List.mem_map.mp hm
            have e : q.1 = f := e
            exact n1 (e ▸ (List.of_mem_zip hq).1)
          · exact absurd n2 h
        · exact .inr z
  rcases this fs us with h | h
  · exact h
  · exact absurd hd h
section
variable {prog : Program} {w : World} {A : Around} {E : Value → Shared → Prop} {h : Heap} {g : Array GenState} {d : Drawn} {t : Nat} {os : OsState}
/-- ValueError.__init__ bound to e, called -/
theorem call_mw {nm q : Str} {C N u e t0 : Addr} {bs bm : List Value} {hdct : Bool} {sn : List Str} {sub : List Value} {ab : Bool} {col : Option Bool} {dd : Option Addr} {k0 k1 k2 k3 k5 : Option Value} {rest : List Value} {Q : Value → Shared → Prop}
    (hC : h.get? C = some (excClassObj nm q C N bs bm hdct sn sub ab col dd k0 k1 k2 k3 k5 "ValueError.__new__")) (he : h.get? e = some (HandSPX.excO C t0)) (hu : h.get? u = some (PySem.W.kxs_mw "ValueError.__init__" e)) (hrest : rest.length ≤ sizeLine)
    (hq : ∀ h' t1, (∀ b o, b ≠ e → h.get? b = some o → h'.get? b = some o) → h'.get? e = some (HandSPX.excO C t1) → Q .none ⟨h', g, d, t, os⟩) :
    wpAny (model prog w) A (call (.ref u) rest) Q E ⟨h, g, d, t, os⟩ := by
  refine wpAny_call (codeAny_of_tree ?_)
  show wpAny _ A.in1 (callAny (.ref u) ⟨rest, []⟩) _ _ _
  simp only [callAny]
  refine wpAny_bind (wpAny_load hu ?_)
  simp only [PySem.W.kxs_mw, show (Value.type "method-wrapper" == Value.type "method" || Value.type "method-wrapper" == Value.type "builtin_function_or_method" || Value.type "method-wrapper" == Value.type "method-wrapper") = true by decide, if_true]
  refine PySem.W.KFB.if_so (by decide) ?_
  refine wpAny_bind (PySem.ESX.check_bound F.excBase_ValueError hC he rfl ?_)
  refine wpAny_bind (wpAny_pure (wpAny_pure ?_))
  refine ⟨Code.quiet_builtin _ (by decide +kernel), codeAny_builtin F.excBase_ValueError.initEntry ?_⟩
  rw [Around.under_plainId F.excBase_ValueError.init.plain _]
  wp_walk
  refine hq _ h.objs.size (fun b o hb ho => ?_) ?_
  · rw [Heap.get?_update_other _ _ (Ne.symm hb)]
    exact Heap.get?_push_of_some _ ho
  · rw [Heap.get?_update_self _ (Heap.get?_push_of_some _ he) rfl]
    rfl
end
section
variable {prog : Program} {w : World} {A : Around} {R : Result → Shared → Prop} {K : PySem.W.Frag} {C f e t0 : Addr} {fs : List Str} {us : List Value} {base h : Heap} {g : Array GenState} {d : Drawn} {t : Nat} {os : OsState} {mg mb : Str → Option Value}
/-- C.__init__(e, ..) -/
theorem init_run (T : ErrC K prog C f fs) (KB : K.In base) (hg : base.Ns mainGlobals mg) (hgs : mg "super" = none) (hb : base.Ns builtinsNs mb) (hbs : mb "super" = bootBuiltins "super") (hlim : h.NoLimit) (kb : ∀ b o, base.get? b = some o → h.get? b = some o) (bes : base.objs.size ≤ e)
    (he : h.get? e = some (eo C t0 none)) (hroom : A.depth < recursionLimit) (hl : us.length = fs.length)
    (hq : ∀ h' t' dx t1, (∀ b o, base.get? b = some o → h'.get? b = some o) → h'.get? e = some (eo C t1 (some dx)) → h'.Ns1 dx (fun y => (fs.zip us).reverse.lookup y) → base.objs.size ≤ dx → dx ≠ e → R (.ok (.ret .none)) ⟨h', g, d, t', os⟩) :
    codeAny (model prog w) A (.call (.ref f) ⟨.ref e :: us, []⟩) R ⟨h, g, d, t, os⟩ := by
  have be : base.get? e = none := Heap.get?_none_of_le bes
  obtain ⟨nm, q, N, bs, bm, sn, sub, ab, col, dd, k0, k1, k2, k3, k5, hC, hbm, hal⟩ := T.cls
  obtain ⟨oc, od, qual, params, body, scope, kV, doc, pm, an, cda, ct, cc, osl, ccl, cdd, vs, ccs, file, tf, cl, cld, csl, hf, hcode, hcda, hvs, hfile, hcc, Fn⟩ := T.fn
  obtain ⟨ar, har, har2⟩ := Fn.head
  obtain ⟨p0, p1, p2, p3, p4, p5, txt, j, sts, hbody, hsts, hev⟩ := Fn.body
  obtain ⟨pl, hev⟩ := hev (PySem.W.ksEnv qual scope h.objs.size f (.ref cda) cc)
  subst hbody
  have hcl : PySem.W.clsIn K C = some { name := nm, bases := bs, mro := .ref C :: bm, ns := N, qualname := q, hasDict := true, slotNames := sn, subclasses := sub, abstract := ab, collection := col, hasDel := false } := by unfold PySem.W.clsIn; rw [hC] <;> rfl
  have KH : K.In h := KB.keeps kb
  have hb0 : ∀ s : Shared, BindsTo s (PySem.W.ksFn "__init__" qual params (.Expr (.Call (.Attribute (.Call (.Name "super" p0) [] [] p1) "__init__" p2) [.Constant (.str txt) j p3] [] p4) p5 :: sts) scope .none kV doc pm an (.ref cda) ct cc) ⟨.ref e :: us, []⟩ ((("self" : Str) :: fs).zip (.ref e :: us)) := fun s =>
    BindsTo.of_eq (Fn.bind _ _ _ _ _ _ _ _ _ _ (by rw [List.length_cons, hl]))
  have hmem : ∀ x ∈ (("self" : Str) :: fs).zip (Value.ref e :: us), x.1 ∈ ("self" : Str) :: fs := fun x hx => (List.of_mem_zip hx).1
  refine PySem.ks_codeAny_call_defAt hroom (KH _ _ hf) rfl hlim (PySem.W.codeRec_of KH hcode) rfl (hb0 _) Fn.ncell (fun x hx => Fn.loc _ (hmem x hx)) (fun h0 hns hk0 => ?_) Fn.co Fn.gen Fn.kind
  have hm : ∀ p ∈ (("self" : Str) :: fs).zip (Value.ref e :: us), ((("self" : Str) :: fs).zip (Value.ref e :: us)).reverse.lookup p.1 = some p.2 := zip_rev_lookup (List.nodup_cons.mpr Fn.nself)
  have hself : ((("self" : Str) :: fs).zip (Value.ref e :: us)).reverse.lookup ("self" : Str) = some (.ref e) := hm ("self", .ref e) (by rw [List.zip_cons_cons]; exact List.mem_cons_self ..)
  generalize hmm : (fun x => ((("self" : Str) :: fs).zip (Value.ref e :: us)).reverse.lookup x) = m at hns
  have hmv : ∀ p ∈ (("self" : Str) :: fs).zip (Value.ref e :: us), m p.1 = some p.2 := fun p hp => by
    rw [← hmm]
    exact hm p hp
  have hms : m "self" = some (.ref e) := by
    rw [← hmm]
    exact hself
  show PySem.wpAt (model prog w) _ (.func _ (PySem.W.ksEnv qual scope h.objs.size f (.ref cda) cc)) (execs _ (PySem.W.ksEnv qual scope h.objs.size f (.ref cda) cc)) _ _ _
  have k0' : ∀ b o, base.get? b = some o → h0.get? b = some o := fun b o z => hk0 b o (kb b o z)
  have K0 : K.In h0 := KB.keeps k0'
  have he0 := hk0 _ _ he
  refine PySem.ks_wpAt_execs_cons (PySem.ks_wpAt_Expr_any (PySem.ks_wpAt_MethodCall (PySem.ks_wpAt_super_base (env := PySem.W.ksEnv qual scope h.objs.size f (.ref cda) cc) Fn.sup Fn.cls (by decide +kernel) rfl (K0 _ _ hf) rfl har rfl (K0 _ _ hcda) rfl hvs hfile T.top ?_) hev) (by unfold interactive; rw [show (PySem.W.ksEnv qual scope h.objs.size f (.ref cda) cc).scope.kind = .function from Fn.kind]; rfl) rfl)
  refine PySem.W.ks_loadName_global Fn.kind Fn.sup (Calls.loadGlobal_builtin (env := PySem.W.ksEnv qual scope h.objs.size f (.ref cda) cc) (hg.keeps k0') hgs (hb.keeps k0') (hbs.trans boot_super) ⟨rfl, ?_⟩)
  refine wpAny_loadName_free Fn.kind Fn.cls rfl ⟨_, K0 _ _ hcc, rfl⟩ ?_
  rw [har2]
  refine wpAny_loadName_local Fn.kind (Fn.loc _ (List.mem_cons_self ..)) hns hms ?_
  refine PySem.ks_wpAny_isType_cls (K0 _ _ hC) rfl ⟨rfl, ?_⟩
  refine PySem.ks_wpAny_call_super (K0 _ _ hC) rfl he0 rfl (fun c z => by cases z) (PySem.W.looks_mroIn K0 T.subC) (fun h2 hso k2 => ?_)
  have k2' : ∀ b o, base.get? b = some o → h2.get? b = some o := fun b o z => k2 b o (k0' b o z)
  have K2 : K.In h2 := KB.keeps k2'
  have he2 := k2 _ _ he0
  have I2 : PySem.W.InstAt h2 e (eo C t0 none) C none := ⟨he2, rfl, rfl, trivial⟩
  have hI : PySem.W.Looks (model prog w) h2 (isInstance (.ref e) (.type "ValueError")) true := I2.type.andThen (PySem.W.looks_subIn K2 T.subV)
  refine PySem.W.kxs_getMethod PySem.W.kxs_ValueError hso (PySem.W.looks_opaque K2 T.third) (l₀ := .ref C :: bm) ?_ (PySem.ESX.drop_own C bm) K2 hal hI (PySem.W.ks_ne K2 I2 hcl) (by decide +kernel) ?_
  · exact fun A Q E s k q => wpAny_bind ((PySem.W.looks_clsIn K2 hcl) A _ E s k (wpAny_pure q))
  have k3 : ∀ b o, h2.get? b = some o → (h2.push (PySem.W.kxs_mw "ValueError.__init__" e)).get? b = some o := fun b o z => Heap.get?_push_of_some _ z
  have hmw : (h2.push (PySem.W.kxs_mw "ValueError.__init__" e)).get? h2.objs.size = some (PySem.W.kxs_mw "ValueError.__init__" e) := Heap.get?_push_at rfl rfl
  generalize h2.push (PySem.W.kxs_mw "ValueError.__init__" e) = h3 at k3 hmw
  have k3' : ∀ b o, base.get? b = some o → h3.get? b = some o := fun b o z => k3 b o (k2' b o z)
  show wpAny _ _ (callWith p4 (.ref h2.objs.size) [] ((false, eval (.Constant (.str txt) j p3) _) :: backTo p4 (starEach [] _)) []) _ _ _
  refine PySem.W.kxs_callWith (i := "ValueError.__init__") (x := e) rfl (Calls.evalArgs_plain ?_)
  refine Calls.spliced_cons (wpAny_Constant_str ?_)
  refine Calls.spliced_nil ⟨hmw, ?_⟩
  refine call_mw (KB.keeps k3' _ _ hC) (k3 _ _ he2) hmw (by rw [sizeLine_eq]; exact Nat.le_of_ble_eq_true rfl) (fun h4 t1 k4 he4 => ?_)
  have nbe : ∀ {b : Addr} {o : Obj}, base.get? b = some o → b ≠ e := fun {b o} z q => by rw [q, be] at z; cases z
  have hns4 : h4.Ns h.objs.size m := hns.at fun o z => k4 _ o (fun q => by
    have := Heap.lt_size he
    rw [← q] at this
    exact absurd this (Nat.lt_irrefl _)) (k3 _ _ (k2 _ _ z))
  refine PySem.wpAt_of_wpAny ?_
  refine fields_run (env := PySem.W.ksEnv qual scope h.objs.size f (.ref cda) cc) (d0 := none) (done := []) (base := base) (C := C) (e := e) (t1 := t1) KB hcl (show PySem.HandSPX.refsVE (.ref C :: bm) = true from hbm) rfl T.sa Fn.kind (Fn.loc _ (List.mem_cons_self ..)) hms bes ?_ ?_ sts fs us h4 _ _ hsts hl.symm (by have := T.nn.2; rw [List.length_nil]; omega)
    (fun x hx => ⟨Fn.loc x (List.mem_cons_of_mem _ hx), T.nof x hx, Fn.dbg x hx⟩) (fun p hp => hmv p (by rw [List.zip_cons_cons]; exact List.mem_cons_of_mem _ hp)) (fun b o z => k4 b o (nbe z) (k3' b o z)) hns4 he4 rfl (.inl T.nn.1) (fun h' t' dx a1 a2 a3 a4 a5 => ?_)
  · cases z : base.get? h.objs.size with
    | none => rfl
    | some o => exact absurd (Heap.lt_size (kb _ _ z)) (Nat.lt_irrefl _)
  · intro z
    have := Heap.lt_size he
    rw [z] at this
    exact absurd this (Nat.lt_irrefl _)
  · rw [List.append_nil] at a3
    exact hq h' t' dx t1 a1 a2 a3 a4 a5
end
end DL

set_option Elab.async false
set_option linter.all false
set_option maxRecDepth 100000
set_option maxHeartbeats 4000000
/-! DX3: raise C(..); a def that lets exceptions out. -/
namespace DL
open PySem PySem.Spec L2
open PyProof.Rows hiding St
theorem relO_zip : ∀ {fs : List Str} {vs : List V} {us : List Value} {acc : List (Str × V)} {accU : List (Str × Value)}, Vals vs us → (∀ f, RelO (acc.lookup f) (accU.lookup f)) → ∀ f, RelO (((fs.zip vs).reverse ++ acc).lookup f) (((fs.zip us).reverse ++ accU).lookup f)
  | [], vs, us, acc, accU, _, h => by simpa using h
  | f0 :: fs, [], us, acc, accU, r, h => by
    cases r
    simpa using h
  | f0 :: fs, v :: vs, us, acc, accU, r, h => by
    cases r with
    | @cons _ u _ us ra rr =>
      rw [List.zip_cons_cons, List.zip_cons_cons, List.reverse_cons, List.reverse_cons, List.append_assoc, List.append_assoc]
      refine relO_zip rr fun f => ?_
      have := relO_put (f := f0) (mA := fun y => accU.lookup y) ra h f
      show RelO (((f0, v) :: acc).lookup f) (((f0, u) :: accU).lookup f)
      have e := congrFun (lookup_fun f0 u accU) f
      have e : ((f0, u) :: accU).lookup f = if f = f0 then some u else accU.lookup f := e
      rw [e]
      exact this
/-- C(e, ..) -/
def tMkE (C : Addr) (fs : List Str) (ta : TA) : St → Hp → XK → Prop := fun σ H Q => ta σ H fun vs H1 => vs.length = fs.length ∧ ∀ d, H1 d = none → Q (.ref C) (some d) (upd H1 d (.xd (fs.zip vs).reverse))
section
variable {X : Cx} {e : Expr} {es : List Expr} {ta : TA} {x : Str} {p pos : Pos} {C f : Addr} {fs : List Str}
theorem pmk_err (T : ErrC X.K X.prog C f fs) (hr : Room 2 X.A) (hg : Gl X x) (hm : X.mg x = some (.ref C)) (hms : X.mg "super" = none) (ha : PA X (e :: es) ta)
    (hdb : (x == ("__debug__" : Str)) = false := by decide) (he : starEach (e :: es) X.env = (false, eval e X.env) :: starEach es X.env := by rfl) (hpl : (backTo pos (starEach es X.env)).any (·.1) = false := by rfl) :
    PMk X (.Call (.Name x p) (e :: es) [] pos) (tMkE C fs ta) := by
  intro pins s σ H Q I h
  obtain ⟨nm, q, N, bs, bm, sn, sub, ab, col, dd, k0, k1, k2, k3, k5, hC, hbm, hal⟩ := T.cls
  refine wpAny_Call_Name_kw (ld_glob I hg hm ?_ hdb)
  refine PySem.W.callWith_K (h₀ := X.base) I.ok.mod.kin T.kC (thn (ha.run pos pins s σ H _ I h) fun us s1 ⟨vs, H1, I1, r1, hz, q1⟩ => ⟨I1.kIn, ?_⟩) he hpl
  show wpAny _ _ (call (.ref C) us) _ _ _
  have hlen := Paired.length r1
  obtain ⟨hp, g, dr, tk, os⟩ := s1
  have hsz : hp.objs.size ≤ hp.objs.size + 1 := Nat.le_succ _
  have hn : H1 (hp.objs.size + 1) = none := I1.hok.fresh hsz
  have kk : ∀ b o, hp.get? b = some o → ((hp.push (PySem.W.kdv_tup us)).push (PySem.HandSPX.excO C hp.objs.size)).get? b = some o := fun b o e => Heap.get?_push_of_some _ (Heap.get?_push_of_some _ e)
  have hget : ((hp.push (PySem.W.kdv_tup us)).push (PySem.HandSPX.excO C hp.objs.size)).get? (hp.objs.size + 1) = some (PySem.HandSPX.excO C hp.objs.size) := by heap_get
  have hus : us.length ≤ sizeLine := by
    have := T.nn.2
    rw [sizeLine_eq]
    omega
  obtain ⟨mb, hblt, hboot⟩ := I1.mod.blt
  refine wpAny_call (PySem.HandSPX.call_own F.excBase_ValueError (fun Y => PySem.HandSPX.refsVE_contains Y bm hbm) (I1.kIn _ _ hC) (PySem.W.looks_findIn I1.kIn T.ini) (fun self => PySem.W.bind_fn I1.kIn self T.tyI) hus
    (init_run T (base := hp) I1.kIn (I1.mod.glob.keeps I1.bk) hms (hblt.keeps I1.bk) (hboot _ (by decide +kernel)) (I1.nolimit.keeps kk) kk hsz hget (hr.make C us []).depth (by omega) fun h' t' dx t1 k' he' hn' b1 b2 => ?_))
  refine ⟨rfl, ?_⟩
  obtain ⟨G, g1', g2'⟩ := restrict h' fun b => decide (b ≠ hp.objs.size + 1)
  have gk : ∀ b, b ≠ hp.objs.size + 1 → G.get? b = h'.get? b := fun b hb => g1' b (decide_eq_true hb)
  have ge : G.get? (hp.objs.size + 1) = none := g2' _ (by simp)
  have kG : ∀ b o, hp.get? b = some o → G.get? b = some o := fun b o z => by
    rw [gk b (Nat.ne_of_lt (Nat.lt_of_lt_of_le (Heap.lt_size z) hsz))]
    exact k' b o z
  have ok : ObjOk X.prog X.w (upd H1 dx (.xd (fs.zip vs).reverse)) G dx (.xd (fs.zip vs).reverse) :=
    ⟨fun y => (fs.zip us).reverse.lookup y, hn'.at fun o z => (gk dx b2).trans z, fun y => by
      have := relO_zip (fs := fs) (acc := []) (accU := []) r1 (fun _ => True.intro) y
      rw [List.append_nil, List.append_nil] at this
      exact this⟩
  have J := I1.laid (t' := t') (a := dx) (o := .xd (fs.zip vs).reverse) (h' := G) kG b1 ok
  refine ⟨hp.objs.size + 1, _, _, ⟨G, g, dr, t', os⟩, _, .ref C, some dx, rfl, J, fun b o z => ?_, ge, he', ⟨rfl, rfl⟩, rfl, rfl, ?_, rfl, I1.bare, raises_own T.exC T.tyC, q1 dx (I1.hok.fresh b1)⟩
  · by_cases hb : b = hp.objs.size + 1
    · rw [hb, ge] at z
      cases z
    · exact (gk b hb).symm.trans z
  · rw [upd_ne (Ne.symm b2)]
    exact hn
end
/-- raise C(e, ..), ns the fields -/
def sRaise (c : Str) (ns : List Str) (fa : EM (List D)) : EM Fl := fa.bind fun ds ρ => if ds.length = ns.length then .ex c ns.reverse ds.reverse ρ else .bad
theorem RepL.rev {K : PySem.W.Frag} {mg : Str → Option Value} {F : Hp} : ∀ {ds : List D} {vs : List V}, RepL K mg F ds vs → RepL K mg F ds.reverse vs.reverse
  | [], vs, h => by
    unfold RepL at h
    subst h
    exact .nil
  | d :: ds, vs, h => by
    unfold RepL at h
    obtain ⟨v, r, e, h1, h2⟩ := h
    subst e
    rw [List.reverse_cons, List.reverse_cons]
    exact RepL.append (RepL.rev h2) (.cons h1 .nil)
section
variable {X : Cx} {W : WX} {e : Expr} {es : List Expr} {fa : EM (List D)} {x : Str} {p pos pos' : Pos} {C f : Addr} {ns : List Str}
theorem ds_raise (hc : X.calm = true) (tk : Takes X W) (T : ErrC X.K X.prog C f ns) (hr : Room 2 X.A) (hg : Gl X x) (hm : X.mg x = some (.ref C)) (hms : X.mg "super" = none) (ha : PA X (e :: es) (tA X.K X.mg W fa))
    (hdb : (x == ("__debug__" : Str)) = false := by decide) (he : starEach (e :: es) X.env = (false, eval e X.env) :: starEach es X.env := by rfl) (hpl : (backTo pos (starEach es X.env)).any (·.1) = false := by rfl) :
    PS X (.Raise (some (.Call (.Name x p) (e :: es) [] pos)) none pos') (tS X.K X.mg W (sRaise x ns fa)) :=
  (ps_raise hc tk (pmk_err T hr hg hm hms ha hdb he hpl)).imp fun E σ H ⟨T, F, ρ, sr, h⟩ => ⟨T, F, ρ, sr, (PostS.bind h).imp fun vs H1 ⟨ds, F1, ρ1, s1, sr1, r, h1⟩ => by
    by_cases z : ds.length = ns.length
    · rw [if_pos z] at h1
      have hl := r.length
      refine ⟨by omega, fun d hd => ?_⟩
      have gr := Grow.new (o := .xd (ns.zip vs).reverse) sr1.sub hd
      refine h1 σ C (some d) _ _ gr.f (sr1.grow gr) hm (.inr ⟨d, _, rfl, upd_same, ?_, ?_⟩)
      · rw [List.map_reverse, List.map_fst_zip (by omega)]
      · rw [List.map_reverse, List.map_snd_zip (by omega)]
        exact (r.rev).mono gr.f
    · rw [if_neg z] at h1
      exact h1.elim⟩
end
theorem lets_of {X : Cx} {W : WX} (tk : Takes X W) : Lets (L2.CX X.prog X.w) X W := fun _ _ _ _ _ _ I c => tk _ _ (XE.of_call I (fun _ _ _ h => h) c)
/-- THE RULE for a def that lets exceptions out -/
theorem fnX {P : Program} {w : World} {K : PySem.W.Frag} {mg : Str → Option Value} {base : Heap} {x qual : Str} {st : Stmt} {f : Addr} {fd : FuncData} {N ps : List Str} {k : Nat} {b : EM Fl} {dvs : List V} {kws : List (Str × V)}
    (F : FunD K x qual (defArgs st) (defBody st) (defScope st) dvs kws f fd) (S : FnScope N ps (defScope st))
    (hb : ∀ (cdv : Value) (A : Around) (outer : List Env) (s : Shared) (H : Hp) (E : XK), Room k (A.deeper (envOfC qual (defScope st) s.heap.objs.size f cdv)) →
      PSs (cxOf (L2.CX P w) P w K mg base N qual (defScope st) f cdv A outer s H E) (defBody st) (tS K mg (fun c d _ H' => E c d H') b)) : FnOk P w K mg base (L2.CX P w) (k + 1) f fd ps (spG K mg (fOf ps.length N.length b)) := by
  refine F.ok S (fun vs H Q E h => ?_) (fun cdv A outer s H vs Q E hr h => ⟨_, hb cdv A outer s H E hr, ?_⟩)
  · obtain ⟨T, F, as, sr, h⟩ := h
    unfold fOf at h
    by_cases z : as.length = ps.length
    · rw [← z, sr.len, List.length_map]
    · rw [if_neg z] at h
      exact h.elim
  · obtain ⟨T, F, as, sr, h⟩ := h
    unfold fOf at h
    by_cases z : as.length = ps.length
    · rw [if_pos z] at h
      have e : L2.start N vs = vs.map some ++ List.replicate (N.length - as.length) none := by
        unfold L2.start
        rw [sr.len, List.length_map]
      rw [e]
      refine ⟨T, F, _, sr.pad (N.length - as.length), ?_⟩
      cases q : b (as ++ List.replicate (N.length - as.length) .no) with
      | bad => rw [q] at h; exact h.elim
      | ex c ns ds ρ' =>
        rw [q] at h
        dsimp only at h
        cases q2 : mergeA ρ' 0 as with
        | none => rw [q2] at h; exact h.elim
        | some as' =>
          rw [q2] at h
          exact fun σ' C dx F' H' s sr' m xr => h C dx F' H' s (merge_ok sr sr' s q2) m xr
      | ok a ρ' =>
        rw [q] at h
        cases a with
        | nx =>
          dsimp only at h
          cases q2 : mergeA ρ' 0 as with
          | none => rw [q2] at h; exact h.elim
          | some as' =>
            rw [q2] at h
            exact fun σ' F' H' s sr' => h .non F' H' s (merge_ok sr sr' s q2) (rep_non.mpr rfl)
        | rt d =>
          dsimp only at h
          cases q2 : mergeA ρ' 0 as with
          | none => rw [q2] at h; exact h.elim
          | some as' =>
            rw [q2] at h
            exact fun σ' v F' H' s sr' r => h v F' H' s (merge_ok sr sr' s q2) r
        | bk => exact h.elim
        | ct => exact h.elim
    · rw [if_neg z] at h
      exact h.elim
end DL

set_option Elab.async false
set_option linter.all false
set_option maxRecDepth 100000
set_option maxHeartbeats 4000000
/-! DX4: try: .. except C as e: return [..]. -/
namespace DL
open PySem PySem.Spec L2
open PyProof.Rows hiding St
/-! ### isinstance of an exception that has its dict -/
theorem findObj_dataD {K : PySem.W.Frag} {C : Addr} {od : Option Obj} {name : Str} {a g : Value} (hc : (PySem.W.clsIn K C).isSome = true) (ha : PySem.W.findIn K (.ref C) name = some (some a)) (hg : PySem.W.specialIn K a "__get__" = some (some g)) (ht : PySem.W.takesIn K a = some true) :
    PySem.W.findObj K C od name = some (.bind g a) := by
  obtain ⟨cd, hc⟩ := Option.isSome_iff_exists.mp hc
  unfold PySem.W.findObj
  rw [hc, Option.bind_some, ha, Option.bind_some]
  simp [hg, ht]
section
open PySem.W
variable {prog : Program} {w : World} {A : Around} {E : Value → Shared → Prop} {s : Shared} {K : Frag} {x D : Addr} {ox : Obj} {od : Option Obj}
theorem class_of_exc {Q : Option Value → Shared → Prop} (T : ExcC K D) (X : K.In s.heap) (I : InstAt s.heap x ox D od) (h : Q (some (.ref D)) { s with toks := s.toks + 1 }) : wpAny (model prog w) A (getAttr? (.ref x) "__class__") Q E s := by
  have hf : findObj K D od "__class__" = some (.bind (.builtin "getset_descriptor.__get__") (.builtin "object.__class__")) := findObj_dataD (by obtain ⟨cd, hc, _⟩ := any_some T.hd; rw [hc]; rfl) T.ha T.hn T.ht
  obtain ⟨hp, g, d, t, os⟩ := s
  have LT := I.type (M := model prog w)
  have LG := looks_findIn (M := model prog w) X T.hg
  have LK := looks_findIn (M := model prog w) X T.hk
  have LF := looks_find (M := model prog w) X I hf
  have sub : Looks (model prog w) hp (isInstance (.ref x) (.type "BaseException")) true := LT.andThen (looks_subIn X T.hs)
  have b0 : (false && onTheHeap (Value.builtin "BaseException.__getattribute__")) = false := rfl
  have b2 : (Value.builtin "BaseException.__getattribute__" == Value.builtin "object.__getattribute__") = false := by decide +kernel
  have b1 : (onTheHeap (Value.ref D) && Value.builtin "BaseException.__getattribute__" == Value.builtin "object.__getattribute__") = false := by rw [b2]; rfl
  unfold getAttr? getAttrBy? getAttrBy
  refine wpAny_bind (wpAny_mkText (wpAny_bind (wpAny_attempt (wpAny_holding (wpAny_bind (LT.at (wpAny_bind (LG.at ?_))))))))
  show wpAny _ _ (if (onTheHeap (Value.ref D) && Value.builtin "BaseException.__getattribute__" == Value.builtin "object.__getattribute__") = true then _ else _) _ _ _
  rw [b1, if_neg Bool.false_ne_true]
  unfold getAttrByItsOwn hookBefore
  refine wpAny_bind ?_
  rw [if_pos (show onTheHeap (Value.ref D) = true from rfl)]
  refine LK.at ?_
  refine wpAny_bind (wpAny_attempt (wpAny_holding ?_))
  unfold callGetattribute
  rw [b0, if_neg Bool.false_ne_true]
  unfold boundAndCalled
  rw [PySem.F.excAttr_ValueError.ga.bind (.ref x)]
  refine wpAny_bind (wpAny_pure ?_)
  show wpAny _ _ (call (.builtin "BaseException.__getattribute__") [.ref x, .str "__class__" t]) _ _ _
  refine wpAny_call (codeAny_call_builtin PySem.F.excAttr_ValueError.ga.plain PySem.F.entry_bexc_ga ?_)
  refine @check_slot (model prog w) _ _ ⟨hp, g, d, t + 1, os⟩ "BaseException.__getattribute__" "BaseException" "__getattribute__" (.ref x) [.str "__class__" t] [] _ (by decide +kernel) (by decide +kernel) sub (PySem.F.args_bexc_ga (.ref x) (.str "__class__" t)) ?_
  unfold Builtin.«object.__getattribute__»
  refine wpAny_bind (wpAny_of_eq (a := ((Value.ref x : Value), [Value.str "__class__" t])) (by first | rfl | (simp only [slotArgs]; rfl)) ?_)
  refine wpAny_bind (wpAny_pure (wpAny_bind (LT.at (wpAny_bind (LF.at ?_)))))
  show wpAny _ _ (holding [Value.builtin "object.__class__"] (call (.builtin "getset_descriptor.__get__") [.builtin "object.__class__", .ref x, .ref D]) >>= ret) _ _ _
  refine wpAny_bind (wpAny_holding (wpAny_call (class_get (s := ⟨hp, g, d, t + 1, os⟩) (ox := ox) (od := od) X I T.hm ?_)))
  refine wpAny_pure ?_
  show wpAny _ _ (handedOut (.ref D)) _ _ _
  rw [handedOut_of (v := .ref D) rfl]
  first
    | exact wpAny_pure (wpAny_pure h)
    | exact wpAny_pure h
    | exact wpAny_pure (wpAny_bind (wpAny_pure (wpAny_pure h)))
theorem cls_obj {C : Addr} (h : (clsIn K C).isSome = true) : ∃ c' d' cd' sl', K.lookup C = some ⟨c', d', .cls cd', sl'⟩ := by
  unfold clsIn at h
  split at h
  · rename_i ho
    exact ⟨_, _, _, _, ho⟩
  · cases h
theorem kitx_excD (T : ExcC K D) : KitX K (.ref x) (.ref D) (fun h => ∃ ox od, InstAt h x ox D od) := by
  have hs : (clsIn K D).isSome = true := by
    obtain ⟨cd, hc, _⟩ := any_some T.hd
    rw [hc]
    rfl
  obtain ⟨c', d', cd', sl', ho⟩ := cls_obj hs
  refine ⟨fun _ _ _ ⟨_, _, I⟩ => I.type, fun _ _ X _ => ?_, fun h tp dd its n sl X htp => ?_, fun X ⟨_, _, I⟩ k => class_of_exc T X I k⟩
  · intro A' Q' E' s' k q
    unfold isType loadHead
    exact wpAny_bind (wpAny_loadPart (k _ _ (X _ _ ho)) (wpAny_pure q))
  · cases q : (Value.ref D == Value.ref tp) with
    | false => rfl
    | true =>
      have e : D = tp := Value.ref.inj (beq_iff_eq.mp q)
      rw [← e, X _ _ ho] at htp
      cases htp
end
/-! ### what such a suite speaks of -/
inductive XI where
  | str (z : Str) | fld (f : Str) | bl (b : Bool)
def XV (fs : List (Str × V)) : XI → V → Prop
  | .str z, v => v = .str z
  | .bl b, v => v = .bl b
  | .fld f, v => fs.lookup f = some v
def XVs (fs : List (Str × V)) : List XI → List V → Prop
  | [], [] => True
  | it :: its, v :: vs => XV fs it v ∧ XVs fs its vs
  | _, _ => False
theorem XVs.len {fs : List (Str × V)} : ∀ {its : List XI} {vs : List V}, XVs fs its vs → vs.length = its.length
  | [], [], _ => rfl
  | it :: its, v :: vs, h => by rw [List.length_cons, List.length_cons, XVs.len h.2]
  | [], _ :: _, h => h.elim
  | _ :: _, [], h => h.elim
/-- e, a caught exception with this dict, stands in slot i -/
def ExAt (i : Nat) (a : Addr) (C : Addr) (cls : Value) (d : Option Addr) (fs : List (Str × V)) (σ : St) (H : Hp) : Prop := σ[i]? = some (some (.ref a)) ∧ cls = .ref C ∧ ∃ dd, d = some dd ∧ H dd = some (.xd fs)
def tXI (i : Nat) (a C : Addr) (cls : Value) (d : Option Addr) (it : XI) : TE := fun σ H Q => ∃ fs v, ExAt i a C cls d fs σ H ∧ XV fs it v ∧ Q v H
def tXIs (i : Nat) (a C : Addr) (cls : Value) (d : Option Addr) (its : List XI) : TA := fun σ H Q => ∃ fs vs, ExAt i a C cls d fs σ H ∧ XVs fs its vs ∧ Q vs H
def XItem (X : Cx) (i : Nat) (C : Addr) (e : Expr) (it : XI) : Prop := ∀ (a : Addr) (oe : Obj) (cls : Value) (d : Option Addr) (pn : List (Addr × Obj)), Zc cls d oe → (∃ vs, oe.data = .fields vs) → PE (X.suite a ((a, oe) :: pn)) e (tXI i a C cls d it)
def XItems (X : Cx) (i : Nat) (C : Addr) (es : List Expr) (its : List XI) : Prop := ∀ (a : Addr) (oe : Obj) (cls : Value) (d : Option Addr) (pn : List (Addr × Obj)), Zc cls d oe → (∃ vs, oe.data = .fields vs) → PA (X.suite a ((a, oe) :: pn)) es (tXIs i a C cls d its)
section
variable {X : Cx} {i : Nat} {C : Addr} {e : Expr} {es : List Expr} {it : XI} {its : List XI} {n : Str} {p p1 p2 p3 p4 pos : Pos}
theorem xs_nil : XItems X i C [] [] := fun a oe cls d pn hz hf => pa_nil.imp fun σ H Q ⟨fs, vs, _, h2, q⟩ => by
  cases vs with
  | nil => exact q
  | cons v vs => exact h2.elim
theorem xs_cons (h : XItem X i C e it) (t : XItems X i C es its) (hs : ∀ env : Env, starEach (e :: es) env = (false, eval e env) :: starEach es env := by exact fun _ => rfl) : XItems X i C (e :: es) (it :: its) := fun a oe cls d pn hz hf =>
  (pa_cons (h a oe cls d pn hz hf) (t a oe cls d pn hz hf) (hs _)).imp fun σ H Q ⟨fs, vs, ex, h2, q⟩ => by
    cases vs with
    | nil => exact h2.elim
    | cons v vs => exact ⟨fs, v, ex, h2.1, fs, vs, ex, h2.2, q⟩
theorem xi_str {z : Str} {j} : XItem X i C (.Constant (.str z) j pos) (.str z) := fun a oe cls d pn hz hf => pe_str.imp fun σ H Q ⟨fs, v, _, h2, q⟩ => by
  have h2 : v = .str z := h2
  subst h2
  exact q
theorem xi_fld {f : Str} (T : XfC X.K C) (hno : PySem.W.findIn X.K (.ref C) f = some none) (hN : X.N[i]? = some n) (hv : Vis X.env.scope n) (hb : ∀ env : Env, attributeBase (.Name n p1) f env (eval (.Name n p1) env) = eval (.Name n p1) env := by exact fun _ => rfl)
    (hd : (n == ("__debug__" : Str)) = false := by decide) (hcd : (n == ("__classdict__" : Str)) = false := by decide) : XItem X i C (.Attribute (.Name n p1) f pos) (.fld f) := fun a oe cls d pn hz hf =>
  (pe_xf (X := X) (C := C) T hno hz hf (pe_var (X := X.suite a ((a, oe) :: pn)) (i := i) hN hv hd hcd) (hb _)).imp fun σ H Q ⟨fs, v, ⟨e1, e2, dd, e3, e4⟩, h2, q⟩ => ⟨.ref a, e1, rfl, e2, dd, fs, v, e3, e4, h2, q⟩
/-- isinstance(e, c) -/
def rIsD (K : PySem.W.Frag) (D a : Addr) (d : Option Addr) : List V → Hp → VK → Prop := fun xs H Q => ∃ (c : V) (cv : Value) (b : Bool) (fs : List (Str × V)) (dd : Addr), xs = [.ref a, c] ∧ (∀ u, RelV c u → u = cv) ∧ PySem.W.kitOne K (.ref D) cv = some b ∧ d = some dd ∧ H dd = some (.xd fs) ∧ Q (.bl b) H
theorem call_isD {a : Addr} {oe : Obj} {d : Option Addr} {pn : List (Addr × Obj)} (T : ExcC X.K C) (hz : Zc (.ref C) d oe) (hf : ∃ vs, oe.data = .fields vs) : CallR (X.suite a ((a, oe) :: pn)) (.builtin "isinstance") (rIsD X.K C a d) := by
  intro pins s σ H xs us Q I r h
  obtain ⟨c, cv, b, fs, dd, rfl, hcv, ek, ed, ea, q⟩ := h
  cases r with
  | cons rx rr =>
    cases rr with
    | cons rt rr =>
      cases rr
      cases rx
      have ec := hcv _ rt
      subst ec
      subst ed
      obtain ⟨hget, _⟩ := I.pin (a, oe) (List.mem_append.mpr (.inl List.mem_cons_self))
      obtain ⟨vs, hv⟩ := hf
      have hx : ObjOk X.prog X.w H s.heap dd (.xd fs) := I.hok dd _ ea
      obtain ⟨mA, hns, _⟩ := hx
      obtain ⟨od, ho, _⟩ := lookIn_ns hns
      have J : PySem.W.InstAt s.heap a oe C (some od) := ⟨hget, hz.1, by unfold PySem.W.notCls; rw [hv] <;> rfl, by rw [hz.2]; exact ho⟩
      exact PySem.W.kia_one (kitx_excD T) I.kIn ⟨_, _, J⟩ ek (fun z => nomatch z) fun tk => ⟨.bl b, H, I.kept (t' := tk) fun _ _ z => z, rfl, q⟩
/-- what asks isinstance(e, c) needs of the context -/
structure IsN (X : Cx) (n : Str) (i : Nat) (c : Str) (cv : Addr) : Prop where
  hg : Gl X "isinstance"
  hm : X.mg "isinstance" = none
  hN : X.N[i]? = some n
  hv : Vis X.env.scope n
  gT : Gl X c
  mT : X.mg c = some (.ref cv)
  hd : (n == ("__debug__" : Str)) = false
  hcd : (n == ("__classdict__" : Str)) = false
  dT : (c == ("__debug__" : Str)) = false
theorem xi_is {c : Str} {cv : Addr} {b : Bool} (T : ExcC X.K C) (N : IsN X n i c cv) (hk : PySem.W.kitOne X.K (.ref C) (.ref cv) = some b) (hv : bootBuiltins "isinstance" = some (.builtin "isinstance") := by rfl)
    (he : ∀ env : Env, starEach [.Name n p1, .Name c p2] env = (false, eval (.Name n p1) env) :: starEach [.Name c p2] env := by exact fun _ => rfl) (he2 : ∀ env : Env, starEach [.Name c p2] env = (false, eval (.Name c p2) env) :: starEach [] env := by exact fun _ => rfl)
    (hpl : ∀ env : Env, (backTo pos (starEach [.Name c p2] env)).any (·.1) = false := by exact fun _ => rfl) : XItem X i C (.Call (.Name "isinstance" p) [.Name n p1, .Name c p2] [] pos) (.bl b) := fun a oe cls d pn hz hf => by
  by_cases hcls : cls = .ref C
  · subst hcls
    refine (pe_callB (X := X.suite a ((a, oe) :: pn)) (call_isD T hz hf) N.hg N.hm hv (pa_cons (pe_var (X := X.suite a ((a, oe) :: pn)) (i := i) N.hN N.hv N.hd N.hcd) (pa_cons (pe_glob (X := X.suite a ((a, oe) :: pn)) (v := V.ref cv) N.gT N.mT rfl N.dT) pa_nil (he2 _)) (he _)) (by decide) (by decide) (he _) (hpl _)).imp fun σ H Q ⟨fs, v, ⟨e1, e2, dd, e3, e4⟩, h2, q⟩ => ?_
    have h2 : v = .bl b := h2
    subst h2
    exact ⟨.ref a, e1, .ref cv, .ref cv, b, fs, dd, rfl, fun u r => r, hk, e3, e4, q⟩
  · exact ⟨fun pins s σ H Q I ⟨fs, v, ⟨_, e2, _⟩, _⟩ => absurd e2 hcls⟩
theorem xi_not {b : Bool} (h : XItem X i C e (.bl b)) : XItem X i C (.UnaryOp .Not e pos) (.bl (!b)) := fun a oe cls d pn hz hf => (pe_not (h a oe cls d pn hz hf)).imp fun σ H Q ⟨fs, v, ex, h2, q⟩ => by
  have h2 : v = .bl (!b) := h2
  subst h2
  exact ⟨fs, .bl b, ex, rfl, b, rfl, q⟩
theorem xi_and {e2 : Expr} {b c : Bool} (h1 : XItem X i C e (.bl b)) (h2 : XItem X i C e2 (.bl c)) : XItem X i C (.BoolOp .And [e, e2] pos) (.bl (b && c)) := fun a oe cls d pn hz hf => (pe_and (h1 a oe cls d pn hz hf) (pe_one (h2 a oe cls d pn hz hf))).imp fun σ H Q ⟨fs, v, ex, h2, q⟩ => by
  have h2 : v = .bl (b && c) := h2
  subst h2
  refine ⟨fs, .bl b, ex, rfl, b, rfl, ?_⟩
  cases b with
  | true => exact ⟨fs, .bl c, ex, rfl, q⟩
  | false => exact q
end
/-! ### the statement -/
def xval (ns : List Str) (ds : List D) : XI → Option D
  | .str z => some (.str z)
  | .bl b => some (.bl b)
  | .fld f => (ns.zip ds).lookup f
def xvals (ns : List Str) (ds : List D) : List XI → Option (List D)
  | [] => some []
  | it :: its => (xval ns ds it).bind fun y => (xvals ns ds its).map (y :: ·)
/-- try: fb / except x as (slot i): return [..] -/
def sTryL (i : Nat) (x : Str) (its : List XI) (fb : EM Fl) : EM Fl := fun ρ => match fb ρ with
  | .ex c ns ds ρ' => if c = x ∧ ns ≠ [] ∧ i < ρ'.length then (match xvals ns ds its with
    | some ys => .ok (.rt (.lst ys)) (ρ'.set i .no)
    | none => .bad) else .bad
  | r => r
section
variable {K : PySem.W.Frag} {mg : Str → Option Value} {F H : Hp}
theorem zip_lookup {f : Str} {d : D} : ∀ {fs : List (Str × V)} {ds : List D}, RepL K mg F ds (fs.map (·.2)) → ((fs.map (·.1)).zip ds).lookup f = some d → ∃ v, fs.lookup f = some v ∧ Rep K mg F d v
  | [], ds, _, h => by
    rw [List.map_nil, List.zip_nil_left] at h
    cases h
  | (g, v) :: fs, [], r, h => by cases h
  | (g, v) :: fs, d0 :: ds, r, h => by
    rw [List.map_cons] at r
    obtain ⟨r1, r2⟩ := RepL.cons_iff.mp r
    rw [List.map_cons, List.zip_cons_cons, List.lookup_cons] at h
    rw [List.lookup_cons]
    cases z : f == g with
    | true =>
      rw [z] at h
      cases h
      exact ⟨v, rfl, r1⟩
    | false =>
      rw [z] at h
      exact zip_lookup r2 h
theorem xval_rep {fs : List (Str × V)} {ds : List D} (r : RepL K mg F ds (fs.map (·.2))) {it : XI} {y : D} (h : xval (fs.map (·.1)) ds it = some y) : ∃ v, XV fs it v ∧ Rep K mg F y v := by
  cases it with
  | str z => cases h; exact ⟨.str z, rfl, rep_str.mpr rfl⟩
  | bl b => cases h; exact ⟨.bl b, rfl, rep_bl.mpr rfl⟩
  | fld f =>
    obtain ⟨v, e, rv⟩ := zip_lookup r h
    exact ⟨v, e, rv⟩
theorem xvals_rep {fs : List (Str × V)} {ds : List D} (r : RepL K mg F ds (fs.map (·.2))) : ∀ {its : List XI} {ys : List D}, xvals (fs.map (·.1)) ds its = some ys → ∃ vs, XVs fs its vs ∧ RepL K mg F ys vs
  | [], ys, h => by
    cases h
    exact ⟨[], trivial, .nil⟩
  | it :: its, ys, h => by
    obtain ⟨y, h1, h2⟩ := Option.bind_eq_some_iff.mp h
    obtain ⟨ys', h3, h4⟩ := Option.map_eq_some_iff.mp h2
    subst h4
    obtain ⟨v, e1, r1⟩ := xval_rep r h1
    obtain ⟨vs, e2, r2⟩ := xvals_rep r h3
    exact ⟨v :: vs, ⟨e1, e2⟩, .cons r1 r2⟩
theorem xvals_len {ns : List Str} {ds : List D} : ∀ {its : List XI} {ys : List D}, xvals ns ds its = some ys → ys.length = its.length
  | [], ys, h => by cases h; rfl
  | it :: its, ys, h => by
    obtain ⟨y, h1, h2⟩ := Option.bind_eq_some_iff.mp h
    obtain ⟨ys', h3, h4⟩ := Option.map_eq_some_iff.mp h2
    subst h4
    rw [List.length_cons, List.length_cons, xvals_len h3]
end
section
variable {X : Cx} {W : WX} {x n : Str} {C : Addr} {i : Nat} {body : List Stmt} {es : List Expr} {its : List XI} {np lp rp pos pos' : Pos} {fb : EM Fl}
theorem ds_tryL (hs : X.stack = X.env :: X.outer) (hf : X.env.frame = some X.env.locals) (hN : X.N.Nodup) (hi : X.N[i]? = some n) (hln : X.env.kindOf n = some .local) (hg : Gl X x) (hdb : (x == ("__debug__" : Str)) = false) (hm : X.mg x = some (.ref C)) (hex : PySem.W.exmOne X.K (.ref C) (.ref C) = some true) (tk : Takes X W) (hl : its.length ≤ 1000)
    (hb : ∀ (W : WX) (pn : List (Addr × Obj)) (xe : Value → Shared → Prop), Takes (X.tr pn xe) W → PassesOwn (model X.prog X.w) X.A X.env xe → PSs (X.tr pn xe) body (tS X.K X.mg W fb))
    (hit : XItems X i C es its) :
    PS X (.Try body [.ExceptHandler (some (.Name x np)) (some n) [.Return (some (.List es lp)) rp] pos'] [] [] pos) (tS X.K X.mg W (sTryL i x its fb)) := by
  have hsu : ∀ (a : Addr) (oe : Obj) (cls : Value) (d : Option Addr) (pn : List (Addr × Obj)), Zc cls d oe → (∃ vs, oe.data = .fields vs) → PSs (X.suite a ((a, oe) :: pn)) [.Return (some (.List es lp)) rp] (tRet (tLst (tXIs i a C cls d its))) := fun a oe cls d pn hz hd => pss_one (ps_ret (pe_lst (hit a oe cls d pn hz hd)))
  refine (ps_try_as (pos' := pos') (pos := pos) (np := np) hs hf hN hi hln ⟨hg, hdb, .inl hm⟩ tk hb hsu).imp fun E σ H ⟨T, F, ρ, sr, h⟩ => ⟨T, F, ρ, sr, ?_⟩
  unfold sTryL at h
  cases z : fb ρ with
  | bad => rw [z] at h; exact h.elim
  | ok a ρ' =>
    rw [z] at h
    cases a <;> exact h
  | ex c ns ds ρ' =>
    rw [z] at h
    dsimp only at h
    by_cases hc : c = x ∧ ns ≠ [] ∧ i < ρ'.length
    · rw [if_pos hc] at h
      cases q : xvals ns ds its with
      | none => rw [q] at h; exact h.elim
      | some ys =>
        rw [q] at h
        intro σ' C' dx F' H' s sr' m xr
        rw [hc.1] at m
        obtain rfl := cls_same hm m
        refine ⟨true, hex, fun _ a ha => ?_, fun z => nomatch z⟩
        rcases xr with xr | ⟨dd, fs, ed, ef, en, er⟩
        · exact absurd xr hc.2.1
        · subst ed
          rw [← en] at q
          obtain ⟨vs, e1, e2⟩ := xvals_rep er q
          have hlt : i < σ'.length := by
            have := sr'.len
            have := hc.2.2
            omega
          refine ⟨fs, vs, ⟨by rw [List.getElem?_set_self hlt], rfl, dd, rfl, sr'.sub _ _ ef⟩, e1, ?_, fun p hp => ?_⟩
          · have := XVs.len e1
            rw [sizeLine_eq]
            omega
          · have gr := Grow.new (o := .lst vs) sr'.sub hp
            refine h σ' (.ref p) _ _ (s.trans gr.f) ((sr'.put i (x := .no) trivial (fun z => nomatch z)).grow gr) ?_
            exact rep_lst_mk e2 (sr'.sub.free hp)
    · rw [if_neg hc] at h
      exact h.elim
end
end DL

set_option Elab.async false
set_option linter.all false
set_option maxRecDepth 100000
set_option maxHeartbeats 4000000
/-! DX5: list(range(a, b, -1)); xs.index(text); C() and C.m() without arguments; a def that returns an own list. -/
namespace DL
open PySem PySem.Spec L2
open PyProof.Rows hiding St
/-! ### list(range(i, j, -1)) -/
def gDown : List D → Option D
  | [.int i, .int j, .int c] => if c = -1 ∧ -(2 ^ 62) ≤ i ∧ i < 2 ^ 62 ∧ -(2 ^ 62) ≤ j ∧ j < 2 ^ 62 ∧ (i - j).toNat ≤ 100000 then some (.lst ((List.range (i - j).toNat).map fun (k : Nat) => .int (i + k * (-1)))) else none
  | _ => none
def tLstD (ta : TA) : TE := fun σ H Q => ta σ H fun vs H1 => ∃ (i j : Int) (n : Nat), vs = [.int i, .int j, .int (-1)] ∧ RgC i j (-1) n ∧ n ≤ 2 ^ 24 ∧ ∀ q, H1 q = none → Q (.ref q) (upd H1 q (.lst ((List.range n).map fun (k : Nat) => V.int (i + k * (-1)))))
theorem vals_down {a c : Int} {n : Nat} {acc : Array Value} (h : ItemsOf (fun i v => ∃ t, v = .int (a + i * c) t) acc n) : Vals ((List.range n).map fun (k : Nat) => V.int (a + k * c)) acc.toList := by
  have e : acc.toList.length = n := by rw [Array.length_toList]; exact h.1
  rw [← e]
  refine vals_of_get acc.toList _ fun j u hj => ?_
  obtain ⟨t, rfl⟩ := h.2 j u (by rw [← hj, Array.getElem?_toList])
  exact ⟨t, rfl⟩
section
variable {X : Cx} {W : WX} {a b c : Expr} {ta : TA} {fa : EM (List D)} {p p2 pos pos2 : Pos}
theorem pe_listDown (hc : X.calm = true) (hg : Gl X "list") (hm : X.mg "list" = none) (hgr : Gl X "range") (hmr : X.mg "range" = none) (ha : PA X [a, b, c] ta)
    (hs : starEach [a, b, c] X.env = (false, eval a X.env) :: starEach [b, c] X.env := by rfl) (hpl : (backTo pos2 (starEach [b, c] X.env)).any (·.1) = false := by rfl)
    (na : starEach [.Call (.Name "range" p2) [a, b, c] [] pos2] X.env = (false, eval (.Call (.Name "range" p2) [a, b, c] [] pos2) X.env) :: starEach [] X.env := by rfl) :
    PE X (.Call (.Name "list" p) [.Call (.Name "range" p2) [a, b, c] [] pos2] [] pos) (tLstD ta) := by
  refine ⟨fun pins s σ H Q I h => ?_⟩
  refine Call_ (ld_blt I hg hm boot_list (PyProof.Rows.callWith_type1 (args_cons (Call_ (ld_blt I hgr hmr boot_range (PyProof.Rows.callWith_type1 (thn (ha.run pos2 pins s σ H _ I h) fun us s1 ⟨vs, H1, I1, r1, q1⟩ => ?_) hs hpl))) na) na))
  obtain ⟨i, j, n, e, ⟨c0, c1, c2, c3⟩, hn, q⟩ := q1
  subst e
  cases r1 with
  | cons r rr =>
    cases rr with
    | cons r' rr =>
      cases rr with
      | cons r'' rr =>
        cases rr
        obtain ⟨t, rfl⟩ := r
        obtain ⟨t', rfl⟩ := r'
        obtain ⟨t'', rfl⟩ := r''
        refine call_range_3 c0 (args_nil ?_) (.inl (PyProof.noPylong_small c1))
        have I2 : Inv X pins σ H1 { s1 with heap := s1.heap.push { cls := .type "range", data := .fields #[.int i t, .int j t', .int (-1) t''] } } := I1.kept (t' := s1.toks) fun b o e => Heap.get?_push_of_some _ e
        refine call_list_range (n := n) (I2.ok.hd hc) (IsRange.new ..) c2 c3 hn fun h' tk acc c' hk e' hi => ?_
        refine ⟨.ref _, upd H1 _ (.lst ((List.range n).map fun (k : Nat) => V.int (i + k * (-1)))), I2.laid hk (Nat.le_refl _) (show ObjOk X.prog X.w _ _ _ (.lst _) from ⟨?_, acc.toList, c', vals_down hi, ?_⟩), rfl, q _ (I2.hok.fresh (Nat.le_refl _))⟩
        · rw [List.length_map, List.length_range, sizeLine_eq]; omega
        · rw [Array.toArray_toList]; exact e'
theorem repL_down {K : PySem.W.Frag} {mg : Str → Option Value} {F : Hp} (f : Nat → Int) : ∀ {l : List Nat}, RepL K mg F (l.map fun k => D.int (f k)) (l.map fun k => V.int (f k))
  | [] => .nil
  | k :: l => .cons (rep_int.mpr rfl) (repL_down f)
theorem de_listDown (hc : X.calm = true) (hg : Gl X "list") (hm : X.mg "list" = none) (hgr : Gl X "range") (hmr : X.mg "range" = none) (ha : PA X [a, b, c] (tA X.K X.mg W fa))
    (hs : starEach [a, b, c] X.env = (false, eval a X.env) :: starEach [b, c] X.env := by rfl) (hpl : (backTo pos2 (starEach [b, c] X.env)).any (·.1) = false := by rfl)
    (na : starEach [.Call (.Name "range" p2) [a, b, c] [] pos2] X.env = (false, eval (.Call (.Name "range" p2) [a, b, c] [] pos2) X.env) :: starEach [] X.env := by rfl) :
    PE X (.Call (.Name "list" p) [.Call (.Name "range" p2) [a, b, c] [] pos2] [] pos) (tE X.K X.mg W (eBlt gDown fa)) :=
  (pe_listDown hc hg hm hgr hmr ha hs hpl na).imp fun σ H Q ⟨T, F, ρ, sr, h⟩ => ⟨T, F, ρ, sr, (Post.bind h).imp fun vs H1 ⟨ds, F1, ρ1, sr1, r, h1⟩ => by
    unfold EM.opt at h1
    cases z : gDown ds with
    | none => rw [z] at h1; exact h1.elim
    | some d =>
      rw [z] at h1
      unfold gDown at z
      split at z
      · rename_i i j c
        split at z
        · rename_i hc
          obtain ⟨hc1, h2, h3, h4, h5, h6⟩ := hc
          subst hc1
          cases z
          obtain ⟨v1, r1, e1, rv1, rr1⟩ : ∃ v r, vs = v :: r ∧ Rep X.K X.mg F1 (.int i) v ∧ RepL X.K X.mg F1 [.int j, .int (-1)] r := by
            unfold RepL at r; exact r
          obtain ⟨v2, r2, e2, rv2, rr2⟩ : ∃ v r, r1 = v :: r ∧ Rep X.K X.mg F1 (.int j) v ∧ RepL X.K X.mg F1 [.int (-1)] r := by
            unfold RepL at rr1; exact rr1
          obtain ⟨v3, e3, rv3⟩ := RepL.one rr2
          rw [rep_int] at rv1 rv2 rv3
          subst e1 e2 e3 rv1 rv2 rv3
          refine ⟨i, j, (i - j).toNat, rfl, RgC.neg h2 h3 h4 h5, by omega, fun q hq => ?_⟩
          have gr := Grow.new (o := .lst ((List.range (i - j).toNat).map fun (k : Nat) => V.int (i + k * (-1)))) sr1.sub hq
          exact h1.ok_grow sr1 gr (rep_lst_mk (repL_down _) (sr1.sub.free hq))
        · cases z
      · cases z⟩
end
/-! ### xs.index(text) -/
def gIdxL : D → D → Option D
  | .lst xs, .str z => (toStrs xs).bind fun ys => (idxS z ys).map fun j => .int (j : Nat)
  | _, _ => none
def eIdxL (fo fe : EM D) : EM D := fo.bind fun d => match d with
  | .lst xs => fe.bind fun y => EM.opt (gIdxL (.lst xs) y)
  | _ => fun _ => .bad
section
variable {X : Cx} {W : WX} {o e : Expr} {fo fe : EM D} {apos cpos : Pos}
theorem de_idxL (ho : PE X o (tE X.K X.mg W fo)) (ha : PE X e (tE X.K X.mg W fe)) (hbase : attributeBase o "index" X.env (eval o X.env) = eval o X.env := by rfl)
    (hfew : ((backTo cpos (starEach [e] X.env)).all (fun x => !x.1) && (backToKw cpos (keywordEach [] X.env)).all (fun x => x.1.isSome)
      && decide ([e].length + ([] : List Keyword).length + (if ([] : List Keyword).isEmpty then 0 else 1) < 30)) = true := by rfl)
    (hline : (apos.endLine == cpos.line) = true := by rfl) (hs : starEach [e] X.env = (false, eval e X.env) :: starEach [] X.env := by rfl) :
    PE X (.Call (.Attribute o "index" apos) [e] [] cpos) (tE X.K X.mg W (eIdxL fo fe)) :=
  (pe_bm (T := "list") PySem.F.plainAttrs_list PySem.F.slot_list_index PySem.F.type_list_index mt_index ho (pa_cons ha pa_nil hs) hbase hfew hline hs rfl).imp fun σ H Q ⟨T', F, ρ, sr, h⟩ => ⟨T', F, ρ, sr, (Post.bind h).imp fun v H1 ⟨d, F1, ρ1, sr1, rv, h1⟩ => by
    have hd : ∃ xs, d = .lst xs := by
      cases d <;> first | exact ⟨_, rfl⟩ | exact h1.elim
    obtain ⟨xs, rfl⟩ := hd
    · have rv' := rv
      unfold Rep at rv
      obtain ⟨p, vs, rfl, hp, rl⟩ := rv
      refine ⟨.inl ⟨rfl, vs, .inl (.inl (sr1.sub _ _ hp))⟩, T', F1, ρ1, sr1, (Post.bind' h1).imp fun u H2 ⟨y, F2, ρ2, _, s2, sr2, ry, h2⟩ => ?_⟩
      unfold EM.opt at h2
      cases y with
      | str z =>
        cases q : gIdxL (.lst xs) (.str z) with
        | none => rw [q] at h2; exact h2.elim
        | some r =>
          rw [q] at h2
          obtain ⟨ys, y1, y2⟩ := Option.bind_eq_some_iff.mp q
          obtain ⟨j, y3, rfl⟩ := Option.map_eq_some_iff.mp y2
          obtain ⟨q1, q2⟩ := idxS_ok y3
          have evs := strs_rep y1 rl
          subst evs
          refine ⟨p, ys.map V.str, .str z, j, .str z, rfl, by rw [rep_str.mp ry], .inl (.inl (sr2.sub _ _ (s2 _ _ hp))), rfl, ?_, by rw [List.getElem?_map, q1]; rfl, beq_self_eq_true z, fun m z' hm hz' => ?_, h2.ok_of sr2 (rep_int.mpr rfl)⟩
          · rw [List.all_eq_true]
            intro x hx
            obtain ⟨y, _, rfl⟩ := List.mem_map.mp hx
            rfl
          · rw [List.getElem?_map] at hz'
            obtain ⟨y, e1, rfl⟩ := Option.map_eq_some_iff.mp hz'
            show (y == z) = false
            refine Bool.eq_false_iff.mpr fun c => q2 m hm ?_
            rw [e1, beq_iff_eq.mp c]
      | _ => exact h2.elim⟩
end
end DL

set_option Elab.async false
set_option linter.all false
set_option maxRecDepth 100000
set_option maxHeartbeats 4000000
/-! DX6: C() and C.m() without arguments; a def that returns an own list. -/
namespace DL
open PySem PySem.Spec L2
open PyProof.Rows hiding St
section
variable {X : Cx} {W : WX} {k : Nat} {f C p' g : Addr} {fs : EM D} {x c m : Str} {p pos apos : Pos} {o : Expr} {mc : Value}
/-- C() -/
theorem de_makeN0 (M : Mk X.K C f) (G : FnR X.prog X.w X.K X.mg X.base CX0 k f (sp0 X.K X.mg fs)) (hr : Room (k + 1) X.A) (hg : Gl X x) (hm : X.mg x = some (.ref C)) (hdb : (x == ("__debug__" : Str)) = false := by decide) : PE X (.Call (.Name x p) [] [] pos) (tE X.K X.mg W (eMake x fs aNil)) := by
  refine ⟨fun pins s σ H Q I ⟨T, F, ρ, sr, h⟩ => ?_⟩
  refine wpAny_Call_Name_kw (ld_glob I hg hm ?_ hdb)
  have h : Post X.K X.mg T W (repE X.K X.mg) F σ Q (makeRes x fs [] ρ) := h
  exact PySem.W.callWith_K0 I.kIn M.kp (StX.run_makeR (us := []) M G hr (E := E0) pass0 I .nil fun a dx na nd ne => make_go sr .nil hm h _ a dx na nd ne)
/-- a staticmethod of a class -/
structure SMet (K : PySem.W.Frag) (C : Addr) (mc : Value) (m : Str) (p g : Addr) : Prop where
  at_ : PySem.W.findCls K (.ref C) mc m = some (.get (.builtin "staticmethod.__get__") (.ref p) .none (.ref C))
  rc : ∃ rest, PySem.W.recIn K p "staticmethod" = some (.ref g :: rest)
  kp : PySem.W.keepIn K (.ref g) = true
/-- C.m() -/
theorem de_smeth0 {pl : Sem Bool} (r : ClX.CRead X.K C mc) (k' : SMet X.K C mc m p' g) (G : FnR X.prog X.w X.K X.mg X.base CX0 k g (sp0 X.K X.mg fs)) (hr : Room k X.A) (hg : Gl X x) (hm : X.mg x = some (.ref C)) (hdb : (x == ("__debug__" : Str)) = false := by decide)
    (ht : eval (.Call (.Attribute (.Name x p) m apos) [] [] pos) X.env = (do
      let ov ← eval (.Name x p) X.env
      standAt apos.atName
      let (f, first) ← holding [ov] (getMethod ov m pl)
      callWith pos f first (backTo pos (starEach [] X.env)) (backToKw pos (keywordEach [] X.env))) := by rfl) :
    PE X (.Call (.Attribute (.Name x p) m apos) [] [] pos) (tE X.K X.mg W (eCall0 fs aNil)) := by
  refine ⟨fun pins s σ H Q I ⟨T, F, ρ, sr, h⟩ => ?_⟩
  obtain ⟨rest, hrec⟩ := k'.rc
  refine PySem.W.methodCall_KW (pl := pl) (ld_glob I hg hm ?_ hdb) ht
  refine PySem.W.method_cls I.kIn r.ga (PySem.W.cls_bind I.kIn r.rd k'.at_ (wpAny_call (PySem.W.sm_get (s := { s with toks := s.toks + 1 }) I.kIn hrec (PySem.W.handed_on rfl ?_))))
  have I1 : Inv X pins σ H { s with toks := s.toks + 1 } := I.tok _
  have h : Post X.K X.mg T W (repE X.K X.mg) F σ Q (callRes0 fs [] ρ) := h
  exact PySem.W.callWith_K0 I1.kIn k'.kp (run_fnG (us := []) (E := E0) G hr (fun e s' c => c.elim) I1 .nil (call0_fz sr .nil h _))
end
/-! ### a def that returns an own list -/
theorem execs_app {env : Env} (b : List Stmt) : ∀ a : List Stmt, execs (a ++ b) env = (execs a env >>= fun f => match f with
    | .next => execs b env
    | f => pure f)
  | [] => by
    show execs b env = ((pure .next : Sem Flow) >>= _)
    rw [pure_bind]
  | st :: a => by
    have ih := execs_app (env := env) b a
    rw [List.cons_append, execs_cons, execs_cons, bind_assoc]
    congr 1
    funext f
    cases f with
    | next => exact ih
    | _ => rw [pure_bind]
theorem pss_app {X : Cx} {a b : List Stmt} {t u : TS} (ha : PSs X a t) (hb : PSs X b u) : PSs X (a ++ b) (fun D σ H => t { D with nx := u D } σ H) := by
  refine ⟨fun pins s σ H D I h => ?_⟩
  rw [execs_app]
  refine wpAny_bind (wpAny_mono (ha.run pins s σ H { D with nx := u D } I h) (fun f s1 q => ?_) fun _ _ z => z)
  cases f with
  | next =>
    obtain ⟨σ', H', I', q2⟩ := q
    exact hb.run pins s1 σ' H' D I' q2
  | ret v => exact wpAny_pure q
  | brk => exact wpAny_pure q
  | cont => exact wpAny_pure q
/-- b, then return of the own list in slot j -/
def gRetO (b : EM Fl) (j : Nat) : EM (List D) := fun ρ => match b ρ with
  | .ok .nx ρ' => (match ρ'.getD j .no with
    | .ow xs => .ok xs (ρ'.set j .no)
    | _ => .bad)
  | _ => .bad
theorem fnOB {P : Program} {w : World} {K : PySem.W.Frag} {mg : Str → Option Value} {base : Heap} {x qual : Str} {st : Stmt} {f : Addr} {fd : FuncData} {N ps : List Str} {k : Nat} {b : EM Fl} {dvs : List V} {kws : List (Str × V)} {y : Str} {yp pos : Pos} {ss : List Stmt} {j : Nat}
    (Fd : FunD K x qual (defArgs st) (defBody st) (defScope st) dvs kws f fd) (S : FnScope N ps (defScope st)) (hbd : defBody st = ss ++ [.Return (some (.Name y yp)) pos])
    (hb : ∀ (cdv : Value) (A : Around) (outer : List Env) (s : Shared) (H : Hp) (E : XK), Room k (A.deeper (envOfC qual (defScope st) s.heap.objs.size f cdv)) →
      PSs (cxOf CX0 P w K mg base N qual (defScope st) f cdv A outer s H E).nox ss (tS K mg W0 b) ∧ PE (cxOf CX0 P w K mg base N qual (defScope st) f cdv A outer s H E).nox (.Name y yp) (tVar j)) : FnOk P w K mg base CX0 (k + 1) f fd ps (spO K mg (fOO ps.length N.length (gRetO b j))) := by
  refine Fd.ok S (fun vs H Q E h => ?_) (fun cdv A outer s H vs Q E hr h => ⟨_, by rw [hbd]; exact (pss_app (hb cdv A outer s H E hr).1 (pss_one (ps_ret (hb cdv A outer s H E hr).2))).nox, ?_⟩)
  · obtain ⟨F, ds, s, rl, h⟩ := h
    unfold fOO at h
    by_cases z : ds.length = ps.length
    · rw [← z, rl.length]
    · rw [if_neg z] at h
      exact h.elim
  · obtain ⟨F, ds, s, rl, h⟩ := h
    unfold fOO at h
    by_cases z : ds.length = ps.length
    · rw [if_pos z] at h
      have e : L2.start N vs = vs.map some ++ List.replicate (N.length - ps.length) none := by
        unfold L2.start
        rw [rl.length, z]
      rw [e]
      have sr := (SR.args s rl).pad (N.length - ps.length)
      refine ⟨_, F, _, sr, ?_⟩
      unfold gRetO at h
      cases q : b (ds.map .fz ++ List.replicate (N.length - ps.length) .no) with
      | bad => rw [q] at h; exact h.elim
      | ex c ns es ρ' => rw [q] at h; exact h.elim
      | ok fl ρ' =>
        rw [q] at h
        cases fl with
        | nx =>
          dsimp only at h
          intro σ' F' H' sf sr'
          have w := sr'.sl j
          cases zj : ρ'.getD j .no with
          | ow xs =>
            rw [zj] at h w
            obtain ⟨a, vs', e1, nF, hH, rx⟩ := w
            have gr : Grow F H F' H' := by
              refine ⟨sf, fun c o e => ?_, sr'.sub, fun c o e n => sr'.pf c o (show rest F H (fun _ => False) c = some o from rest_of e n id)⟩
              cases q : F c with
              | none => exact sr'.pr c o (show rest F H (fun _ => False) c = some o from rest_of e q id)
              | some u =>
                have : u = o := by
                  have := s c u q
                  rw [e] at this
                  exact (Option.some.inj this).symm
                rw [← this]
                exact sr'.sub c u (sf c u q)
            refine ⟨.ref a, e1, h a vs' F' H' gr nF ?_ hH rx⟩
            have np := sr'.po j a (by rw [zj]; rfl) e1
            cases y1 : H a with
            | none => rfl
            | some o =>
              cases y2 : F a with
              | some u =>
                have := sf a u y2
                rw [nF] at this
                cases this
              | none =>
                have hrest : rest F H (fun _ => False) a = some o := rest_of y1 y2 id
                have np : rest F H (fun _ => False) a = none := np
                rw [hrest] at np
                cases np
          | _ => rw [zj] at h; exact h.elim
        | _ => exact h.elim
    · rw [if_neg z] at h
      exact h.elim
end DL

set_option Elab.async false
set_option linter.all false
set_option maxRecDepth 100000
set_option maxHeartbeats 4000000
/-! DX7: a for over a list lent by the caller; a call that is lent its second argument. -/
namespace DL
open PySem PySem.Spec L2
open PyProof.Rows hiding St
open Classical in
noncomputable def forDI (tg : Tg) (j : Nat) (ds0 : List D) (body : EM Fl) : List D → EM Fl
  | [], ρ => if ρ.getD j .no = .io ds0 then .ok .nx ρ else .bad
  | d :: ds, ρ => if ρ.getD j .no = .io ds0 then (match setT tg d ρ with
    | none => .bad
    | some ρ1 => stepF (body ρ1) (forDI tg j ds0 body ds)) else .bad
/-- for tg in xs, xs (slot j) lent by the caller and not changed meanwhile -/
noncomputable def sForI (tg : Tg) (j : Nat) (body : EM Fl) : EM Fl := fun ρ => match ρ.getD j .no with
  | .io ds => forDI tg j ds body ds ρ
  | _ => .bad
theorem forDI_io {tg : Tg} {j : Nat} {ds0 : List D} {body : EM Fl} {K : PySem.W.Frag} {mg : Str → Option Value} {T : Sit} {W : WX} {F : Hp} {E : Ends} {l : List D} {ρ : List Sl} (h : PostS K mg T W F E (forDI tg j ds0 body l ρ)) : ρ.getD j .no = .io ds0 := by
  cases l with
  | nil =>
    unfold forDI at h
    by_cases z : ρ.getD j .no = .io ds0
    · exact z
    · rw [if_neg z] at h
      exact h.elim
  | cons d l =>
    unfold forDI at h
    by_cases z : ρ.getD j .no = .io ds0
    · exact z
    · rw [if_neg z] at h
      exact h.elim
section
variable {X : Cx} {W : WX} {body : List Stmt} {f : EM Fl} {pos : Pos}
theorem ds_forI {iter tg : Expr} {g : Tg} (j : Nat) (hp : PassesOwn (model X.prog X.w) X.A X.env X.xe) (hc : X.calm = true) (hi : PI X tg iter (tI X.K X.mg W (iVar j))) (hg : PG X tg (tgR X.K g)) (hb : PSs X body (tS X.K X.mg W f))
    (hs : ∀ x, foldedSetIterable iter X.env x = pure x := by intro _; rfl) : PS X (.For tg iter body [] pos) (tS X.K X.mg W (sForI g j f)) :=
  (ps_for hp hc hi hg hb hs).imp fun D σ H ⟨T, F, ρ, sr, h⟩ => by
    unfold sForI at h
    cases zj : ρ.getD j .no with
    | io ds =>
      rw [zj] at h
      dsimp only at h
      refine ⟨T, F, ρ, sr, ?_⟩
      have e0 : iVar j ρ = .ok (.sl j ds) ρ := by unfold iVar; rw [zj]
      rw [e0]
      rintro J F1 H1 s sr1 ⟨st, G, Y, wlk, wG, wY⟩
      have h1 := PostS.mono s h
      have io_at : ∀ {F' H' : Hp} {σ' : St} {ρ' : List Sl}, SR X.K X.mg T F' H' σ' ρ' → ρ'.getD j .no = .io ds → σ'[j]? = some (some (.ref (T.anc j))) := fun {F' H' σ' ρ'} sr' z => by
        have w := sr'.sl j
        rw [z] at w
        exact w.1
      have side : ∀ {F' H' : Hp} {σ' : St} {ρ' : List Sl}, SR X.K X.mg T F' H' σ' ρ' → ρ'.getD j .no = .io ds → ∀ i es, Src.sl j ds = .sl i es → σ'[i]? = σ[i]? := fun {F' H' σ' ρ'} sr' z i es e => by
        cases e
        rw [io_at sr' z, io_at sr1 zj]
      refine for_it wlk (fun i σ' H' => ∃ F' ρ', SR X.K X.mg T F' H' σ' ρ' ∧ Same F1 F' ∧ PostS X.K X.mg T W F' D (forDI g j ds f (ds.drop i) ρ')) ⟨F1, ρ, sr1, Same.refl _, by rw [List.drop_zero]; exact h1⟩
        (fun i σ' H' _ ⟨F', ρ', sr', s', hh⟩ => wG T F' H' σ' ρ' sr' s' (.inr (forDI_io hh)) (side sr' (forDI_io hh))) (fun i x σ' H' H'' hi ⟨F', ρ', sr', s', h'⟩ y => ?_) (fun σ' H' ⟨F', ρ', sr', s', h'⟩ => ?_)
      · have zi := forDI_io h'
        obtain ⟨F2, d, gr, hd, rx⟩ := wY T i F' H' σ' ρ' x H'' sr' s' (.inr zi) (side sr' zi) hi y
        have hi : i < ds.length := hi
        have hd : ds[i]? = some d := hd
        have ed : ds.drop i = d :: ds.drop (i + 1) := by
          rw [List.drop_eq_getElem_cons hi]
          have : ds[i] = d := by
            rw [List.getElem?_eq_getElem hi] at hd
            exact Option.some.inj hd
          rw [this]
        rw [ed] at h'
        unfold forDI at h'
        rw [if_pos zi] at h'
        cases e1 : setT g d ρ' with
        | none => rw [e1] at h'; exact h'.elim
        | some ρa =>
          rw [e1] at h'
          refine tg_ok (sr'.grow gr) rx e1 fun σ2 sra _ => ⟨T, F2, ρa, sra, ?_⟩
          have h' : PostS X.K X.mg T W F2 D (stepF (f ρa) (forDI g j ds f (ds.drop (i + 1)))) := PostS.mono gr.f h'
          cases e2 : f ρa with
          | bad => rw [e2] at h'; exact h'.elim
          | ex c ns ds2 ρb => rw [e2] at h'; exact h'
          | ok a ρb =>
            rw [e2] at h'
            cases a with
            | nx => exact fun σ3 F3 H3 s3 sr3 => ⟨F3, ρb, sr3, (s'.trans gr.f).trans s3, PostS.mono s3 h'⟩
            | ct => exact fun σ3 F3 H3 s3 sr3 => ⟨F3, ρb, sr3, (s'.trans gr.f).trans s3, PostS.mono s3 h'⟩
            | bk => exact h'
            | rt d => exact h'
      · have h' : PostS X.K X.mg T W F' D (forDI g j ds f (ds.drop ds.length) ρ') := h'
        have zi := forDI_io h'
        rw [List.drop_length] at h'
        unfold forDI at h'
        rw [if_pos zi] at h'
        exact h' σ' F' H' (Same.refl _) sr'
    | _ => rw [zj] at h; exact h.elim
end
/-! ### f(e, xs), xs lent -/
def ioRes2 (j : Nat) (fs : EM D) (d0 : D) : EM D := fun ρ => match ownL (ρ.getD j .no) with
  | none => .bad
  | some xs => match fs [.fz d0, .io xs] with
    | .ok d (_ :: .io ys :: _) => .ok d (ρ.set j (reL (ρ.getD j .no) ys))
    | _ => .bad
def eCallI2 (j : Nat) (fs : EM D) (fa : EM D) : EM D := fa.bind (ioRes2 j fs)
section
variable {K : PySem.W.Frag} {mg : Str → Option Value} {T : Sit} {W : WX} {F H : Hp} {σ : St} {ρ : List Sl} {fs : EM D} {d0 : D} {v0 : V} {Q : VK}
theorem call_i2 {j : Nat} {a : Addr} (sr : SR K mg T F H σ ρ) (r : Rep K mg F d0 v0) (ea : σ[j]? = some (some (.ref a))) (h : Post K mg T W (repE K mg) F σ Q (ioRes2 j fs d0 ρ)) (E : XK) : sp0 K mg fs [v0, .ref a] H Q E := by
  unfold ioRes2 at h
  cases z : ownL (ρ.getD j .no) with
  | none => rw [z] at h; exact h.elim
  | some xs =>
    rw [z] at h
    dsimp only at h
    obtain ⟨b, ws, eb, n, q, rx⟩ := sr.lst_at z
    rw [ea] at eb
    cases eb
    have oj := ownL_some z
    have sr0 : SR K mg ⟨fun _ => a, rest F H fun b => b = a⟩ F H ([v0, V.ref a].map some) [.fz d0, .io xs] := by
      have own : ∀ i, (([Sl.fz d0, .io xs] : List Sl).getD i .no).own = true → i = 1 := fun i o => by
        match i, o with
        | 0, o => cases o
        | 1, _ => rfl
        | i + 2, o => cases o
      refine ⟨sr.sub, fun b o (e : rest F H (fun b => b = a) b = some o) => (rest_some e).2.2, fun b o (e : rest F H (fun b => b = a) b = some o) => (rest_some e).1, fun i => ?_, fun i b o e => ?_, fun i k b o1 o2 _ _ => by rw [own i o1, own k o2], rfl⟩
      · match i with
        | 0 => exact ⟨v0, rfl, r⟩
        | 1 => exact ⟨rfl, n, ws, q, rx⟩
        | i + 2 => trivial
      · have e0 := own i o
        subst e0
        have eb : b = a := by simpa using e.symm
        subst eb
        show rest F H (fun c => c = b) b = none
        cases q : rest F H (fun c => c = b) b with
        | none => rfl
        | some u => exact absurd rfl (rest_some q).2.1
    refine ⟨_, F, _, sr0, ?_⟩
    cases y : fs [.fz d0, .io xs] with
    | bad => rw [y] at h; exact h.elim
    | ex c ns es as' => rw [y] at h; exact h.elim
    | ok d as' =>
      rw [y] at h
      match as', h with
      | [], h => exact h.elim
      | [_], h => exact h.elim
      | _ :: .no :: _, h => exact h.elim
      | _ :: .fz _ :: _, h => exact h.elim
      | _ :: .ow _ :: _, h => exact h.elim
      | _ :: .oi _ _ _ :: _, h => exact h.elim
      | s0 :: .io ys :: as', h =>
        intro v F' H' s sr' rv
        have w := sr'.sl 1
        have w : SlR K mg ⟨fun _ => a, rest F H fun b => b = a⟩ F' H' 1 _ (.io ys) := w
        obtain ⟨_, n', ws', q', rx'⟩ := w
        have n' : F' a = none := n'
        have q' : H' a = some (.lst ws') := q'
        refine h v F' H' s (sr.change oj ea s sr'.sub (fun b o nb e nf => ?_) ?_) rv
        · have e1 : rest F H (fun b => b = a) b = some o := rest_of e nf nb
          exact ⟨sr'.pr b o e1, sr'.pf b o e1⟩
        · cases zz : ρ.getD j .no with
          | ow zs => exact ⟨a, ws', ea, n', q', rx'⟩
          | io zs =>
            have w := sr.sl j
            rw [zz] at w
            obtain ⟨e2, _⟩ := w
            rw [ea] at e2
            have eq : a = T.anc j := by injection e2 with e2; injection e2 with e2; injection e2
            subst eq
            exact ⟨ea, n', ws', q', rx'⟩
          | _ => rw [zz] at z; cases z
end
section
variable {X : Cx} {W : WX} {k : Nat} {f : Addr} {fs : EM D} {x : Str} {p pos : Pos} {e e2 : Expr} {fa : EM D}
theorem de_callI2 (j : Nat) (G : FnR X.prog X.w X.K X.mg X.base CX0 k f (sp0 X.K X.mg fs)) (hr : Room k X.A) (hg : Gl X x) (hm : X.mg x = some (.ref f)) (hk : PySem.W.keepIn X.K (.ref f) = true) (ha : PE X e (tE X.K X.mg W fa)) (hj : PE X e2 (tVar j))
    (hdb : (x == ("__debug__" : Str)) = false := by decide) (he : starEach [e, e2] X.env = (false, eval e X.env) :: starEach [e2] X.env := by rfl) (he2 : starEach [e2] X.env = (false, eval e2 X.env) :: starEach [] X.env := by rfl) (hpl : (backTo pos (starEach [e2] X.env)).any (·.1) = false := by rfl) :
    PE X (.Call (.Name x p) [e, e2] [] pos) (tE X.K X.mg W (eCallI2 j fs fa)) :=
  (pe_callG (W := W) G hr hg hm hk lets0 (pa_cons ha (pa_cons hj pa_nil he2) he) hdb he hpl).imp fun σ H Q ⟨T, F, ρ, sr, h⟩ => ⟨T, F, ρ, sr, (Post.bind h).imp fun v0 H1 ⟨d0, F1, ρ1, sr1, r, h1⟩ => by
    have h1' := h1
    unfold ioRes2 at h1
    cases z : ownL (ρ1.getD j .no) with
    | none => rw [z] at h1; exact h1.elim
    | some xs =>
      obtain ⟨a, ws, ea, _⟩ := sr1.lst_at z
      exact ⟨.ref a, ea, call_i2 sr1 r ea h1' (fun c d H' => W c d σ H')⟩⟩
end
end DL

set_option Elab.async false
set_option linter.all false
set_option maxRecDepth 100000
set_option maxHeartbeats 4000000
/-! HW2: a Hook with the __init__ of error classes besides. -/
namespace HW
open PySem PySem.Spec L2 He DL
open PyProof.Rows hiding St
def refsB (o : Obj) : List Addr := match o.data with
  | .func fd => fd.closure.map (·.2) ++ refsN o
  | _ => refsN o
def exE (g : Addr → Option Obj) (as : List Addr) : List Addr := as.flatMap fun a => match g a with
  | some o => refsB o
  | none => []
def asE (g : Addr → Option Obj) : List Addr := frL (exN g [mainGlobals]) fun l1 => frL (exN g l1) fun l2 => frL (exN g l2) fun l3 => frL (exE g l3) fun l4 => frL (exN g l4) fun l5 => mainGlobals :: cStatics :: (l1 ++ (l2 ++ (l3 ++ (l4 ++ l5))))
/-- an error class's __init__ -/
structure ErrA where
  cls : Str
  qual : Str
  params : Arguments
  body : List Stmt
  scope : Scope
def ErrA.at_ (e : ErrA) (K : PySem.W.Frag) : Addr := ma K (ga K e.cls) "__init__"
def fnE (K : PySem.W.Frag) (a : Addr) : He.FnW := match K.lookup a with
  | some ⟨_, _, .func fd, _⟩ => some (fd.name, fd.qualname, fd.params, fd.body, fd.scope, fd.globals, fd.closure.map (fun z => (z.1, 0)), fd.builtins)
  | _ => none
def ErrA.val (e : ErrA) : He.FnW := some ("__init__", e.qual, e.params, .stmts e.body, e.scope, mainGlobals, [("__class__", 0)], builtinsNs)
abbrev AlE : Type := AlT × List He.FnW
def obsE (fa : List Fact) (fn : List He5.DefA) (ts : List Tab) (er : List ErrA) (K : PySem.W.Frag) : AlE := (obsW fa fn ts K, er.map fun e => fnE K (e.at_ K))
def valE (fn : List He5.DefA) (ts : List Tab) (er : List ErrA) (w : World) : AlE := (valW fn ts w, er.map ErrA.val)
def SaysE (fa : List Fact) (fn : List He5.DefA) (ts : List Tab) (er : List ErrA) (w : World) (K : PySem.W.Frag) : Prop := obsE fa fn ts er K = valE fn ts er w
def obsEG (fa : List Fact) (fn : List He5.DefA) (ts : List Tab) (er : List ErrA) (g : Addr → Option Obj) : AlE := obsE fa fn ts er (frG g (asE g))
def hookE (fa : List Fact) (fn : List He5.DefA) (ts : List Tab) (er : List ErrA) : PySem.W.Hook where
  α := AlE
  obs := fun s => obsEG fa fn ts er s.heap.get?
  val := fun w => valE fn ts er w
  says := fun w h => ∃ K : PySem.W.Frag, K.In h ∧ SaysE fa fn ts er w K
  of := fun _ _ e => ⟨_, frG_in, e⟩
  keeps := fun _ _ _ ⟨K, hK, c⟩ k => ⟨K, PySem.W.Frag.In.keeps hK k, c⟩
theorem obsEG_eq {fa : List Fact} {fn : List He5.DefA} {ts : List Tab} {er : List ErrA} {g : Addr → Option Obj} {s : Shared} (h : ∀ a, g a = s.heap.get? a) : obsEG fa fn ts er g = (hookE fa fn ts er).obs s := by
  have e : g = s.heap.get? := funext h
  rw [e] <;> rfl
section
variable {fa : List Fact} {fn : List He5.DefA} {ts : List Tab} {er : List ErrA} {w : World} {K : PySem.W.Frag}
theorem SaysE.low (c : SaysE fa fn ts er w K) : SaysW fa fn ts w K := congrArg (fun z : AlE => z.1) c
theorem SaysE.fact (c : SaysE fa fn ts er w K) (i : Nat) {f : Fact} (h : fa[i]? = some f := by rfl) : f K = true := c.low.fact i h
theorem SaysE.def_ (c : SaysE fa fn ts er w K) (i : Nat) {d : He5.DefA} (h : fn[i]? = some d := by rfl) : ∃ fd, L2.FunD K d.name d.qual d.params d.body d.scope (d.dvs K) (d.kws K) (d.at_ K) fd := c.low.def_ i h
theorem SaysE.tab (c : SaysE fa fn ts er w K) (i : Nat) {t : Tab} (h : ts[i]? = some t := by rfl) : ∃ es n, KDict K w (t.1 K) es n := c.low.tab i h
theorem SaysE.err (c : SaysE fa fn ts er w K) (i : Nat) {e : ErrA} (h : er[i]? = some e := by rfl) : fnE K (e.at_ K) = e.val := by
  have e1 : er.map (fun e => fnE K (e.at_ K)) = er.map ErrA.val := congrArg (fun z : AlE => z.2) c
  have e2 : (er.map fun e => fnE K (e.at_ K))[i]? = (er.map ErrA.val)[i]? := by rw [e1]
  rw [List.getElem?_map, List.getElem?_map, h] at e2
  exact Option.some.inj e2
end
/-! ### the class of an error -/
def excB (K : PySem.W.Frag) (C : Addr) : Bool := match K.lookup C with
  | some ⟨.type t, _, .cls ⟨_, _, .ref C' :: bm, _, _, true, _, _, _, _, false⟩, ⟨[_, _, _, _, some (.builtin n), _]⟩⟩ => decide (t = "type") && (decide (C' = C) && (decide (n = "ValueError.__new__") && (PySem.HandSPX.refsVE bm && eqO (PySem.W.alongIn K "__init__" bm) (some (some (.builtin "ValueError.__init__"))))))
  | _ => false
theorem excB_ok {K : PySem.W.Frag} {C : Addr} (h : excB K C = true) : ∃ nm q N bs bm sn sub ab col dd k0 k1 k2 k3 k5, K.lookup C = some (excClassObj nm q C N bs bm true sn sub ab col dd k0 k1 k2 k3 k5 "ValueError.__new__") ∧ PySem.HandSPX.refsVE bm = true ∧ PySem.W.alongIn K "__init__" bm = some (some (.builtin "ValueError.__init__")) := by
  unfold excB at h
  split at h
  · rename_i t dd nm bs C' bm N q sn sub ab col k0 k1 k2 k3 n k5 e
    obtain ⟨h1, h⟩ := ba h
    obtain ⟨h2, h⟩ := ba h
    obtain ⟨h3, h⟩ := ba h
    obtain ⟨h4, h5⟩ := ba h
    have e1 := of_decide_eq_true h1
    have e2 := of_decide_eq_true h2
    have e3 := of_decide_eq_true h3
    subst e1 e2 e3
    exact ⟨nm, q, N, bs, bm, sn, sub, ab, col, dd, k0, k1, k2, k3, k5, e, h4, eqO_ok h5⟩
  · cases h
def fileB : List Value → Str → Bool
  | _ :: _ :: .str z _ :: _, file => decide (z = file)
  | _, _ => false
theorem fileB_ok {l : List Value} {file : Str} (h : fileB l file = true) : ∃ t, l[2]? = some (.str file t) := by
  unfold fileB at h
  split at h
  · have e := of_decide_eq_true h
    subst e
    exact ⟨_, rfl⟩
  · cases h
/-- the function at f: its code's record tells the file, its cell holds the class -/
def efB (K : PySem.W.Frag) (C f : Addr) (qual file : Str) : Bool := match K.lookup f with
  | some ⟨_, _, .func fd, _⟩ => (match fd.closure with
    | [(_, cc)] => (match fd.code with
      | .ref cda => decide (fd.defaults = .none) && (PySem.W.codeIn K (.ref cda) qual && ((match K.lookup cda with
      | some ⟨_, _, .fields vs, _⟩ => fileB vs.toList file
      | _ => false) && (match K.lookup cc with
      | some ⟨_, _, .cell (some (.ref D)), _⟩ => decide (D = C)
      | _ => false)))
      | _ => false)
    | _ => false)
  | _ => false
def fErr (x : Str) (fs : List Str) (qual file : Str) : Fact := fun K => excB K (ga K x) && (eqO (PySem.W.findIn K (.ref (ga K x)) "__setattr__") (some (some (.builtin "object.__setattr__"))) && (decide (PySem.W.subIn K (.ref (ga K x)) (.type "BaseException") = some true) &&
  (eqO (PySem.W.typeIn K (.ref (ga K x)) |>.map some) (some (some (.type "type"))) && (PySem.W.keepIn K (.ref (ga K x)) && (decide (PySem.W.subIn K (.ref (ga K x)) (.type "ValueError") = some true) && (decide (PySem.W.mroIn K (ga K x) (.ref (ga K x)) = some true) &&
  (eqO (PySem.W.findIn K (.ref (ga K x)) "__init__") (some (some (.ref (ma K (ga K x) "__init__")))) && (eqO (PySem.W.typeIn K (.ref (ma K (ga K x) "__init__")) |>.map some) (some (some (.type "function"))) && (efB K (ga K x) (ma K (ga K x) "__init__") qual file &&
  (eqO (PySem.W.nsIn K mainGlobals "super") (some none) && (eqO (PySem.W.nsIn K cStatics "thirdparty.any") (some none) && fs.all fun f => eqO (PySem.W.findIn K (.ref (ga K x)) f) (some none))))))))))))
theorem mapsome {o : Option Value} {v : Value} (h : o.map some = some (some v)) : o = some v := by
  cases o with
  | none => cases h
  | some u =>
    have h : some (some u) = some (some v) := h
    injection h
theorem err_ok {prog : Program} {K : PySem.W.Frag} {e : ErrA} {fs : List Str} {file : Str} (c : fErr e.cls fs e.qual file K = true) (v : fnE K (e.at_ K) = e.val) (hfile : ((prog.main.file : Str) == file) = true) (top : (prog.main.scope.names.lookup ("super" : Str)).isSome = false) (Fn : ErrFn e.params e.body e.scope fs) (nn : fs ≠ [] ∧ fs.length ≤ 50) :
    ErrC K prog (ga K e.cls) (ma K (ga K e.cls) "__init__") fs := by
  unfold fErr at c
  obtain ⟨h1, c⟩ := ba c
  obtain ⟨h2, c⟩ := ba c
  obtain ⟨h3, c⟩ := ba c
  obtain ⟨h4, c⟩ := ba c
  obtain ⟨h5, c⟩ := ba c
  obtain ⟨h6, c⟩ := ba c
  obtain ⟨h7, c⟩ := ba c
  obtain ⟨h8, c⟩ := ba c
  obtain ⟨h9, c⟩ := ba c
  obtain ⟨h10, c⟩ := ba c
  obtain ⟨h11, c⟩ := ba c
  obtain ⟨h12, h13⟩ := ba c
  refine ⟨excB_ok h1, eqO_ok h2, of_decide_eq_true h3, mapsome (eqO_ok h4), h5, of_decide_eq_true h6, of_decide_eq_true h7, eqO_ok h8, mapsome (eqO_ok h9), ?_, eqO_ok h11, eqO_ok h12, top, fun x hx => eqO_ok (List.all_eq_true.mp h13 x hx), nn⟩
  unfold efB at h10
  unfold fnE ErrA.at_ at v
  cases q : K.lookup (ma K (ga K e.cls) "__init__") with
  | none =>
    rw [q] at h10
    cases h10
  | some o =>
    rw [q] at h10 v
    obtain ⟨oc, od, dt, osl⟩ := o
    cases dt with
    | func fd =>
      obtain ⟨n1, n2, n3, n4, n5, n6, n7, n8, n9, n10, n11, n12, n13, n14, n15⟩ := fd
      have e2 : (some (n1, n2, n3, n4, n5, n6, n7.map (fun z => (z.1, 0)), n15) : He.FnW) = ErrA.val e := v
      unfold ErrA.val at e2
      simp only [Option.some.injEq, Prod.mk.injEq] at e2
      obtain ⟨g1, g2, g3, g4, g5, g6, g7, g8⟩ := e2
      dsimp only at h10
      cases n7 with
      | nil => cases h10
      | cons z r =>
        cases r with
        | cons z2 r2 => cases h10
        | nil =>
          obtain ⟨y, cc⟩ := z
          dsimp only at h10
          cases n13 with
          | ref cda =>
            dsimp only at h10
            obtain ⟨k0, h10⟩ := ba h10
            obtain ⟨k1, h10⟩ := ba h10
            obtain ⟨k2, k3⟩ := ba h10
            have k0 : n8 = .none := of_decide_eq_true k0
            subst k0
            have g7 : [(y, (0 : Nat))] = [(("__class__" : Str), 0)] := g7
            injection g7 with g7 _
            injection g7 with g7 _
            subst g1 g2 g3 g4 g5 g6 g7 g8
            cases q2 : K.lookup cda with
            | none =>
              rw [q2] at k2
              cases k2
            | some o2 =>
              rw [q2] at k2
              obtain ⟨ccl, cdd, dt2, ccs⟩ := o2
              cases dt2 with
              | fields vs =>
                obtain ⟨tf, q3⟩ := fileB_ok k2
                cases q4 : K.lookup cc with
                | none =>
                  rw [q4] at k3
                  cases k3
                | some o3 =>
                  rw [q4] at k3
                  obtain ⟨cl, cld, dt3, csl⟩ := o3
                  cases dt3 with
                  | cell cv =>
                    cases cv with
                    | none => cases k3
                    | some u =>
                      cases u with
                      | ref D =>
                        have eD : D = ga K e.cls := of_decide_eq_true k3
                        rw [eD] at q4
                        exact ⟨oc, od, _, _, _, _, n9, n10, n11, n12, cda, n14, cc, osl, ccl, cdd, vs, ccs, _, tf, cl, cld, csl, rfl, k1, q2, by rw [← Array.getElem?_toList]; exact q3, hfile, q4, Fn⟩
                      | _ => cases k3
                  | _ => cases k3
              | _ => cases k2
          | _ => cases h10
    | _ => cases h10
/-! ### what else is asked of such a class -/
def fExm (x : Str) : Fact := fun K => decide (PySem.W.exmOne K (.ref (ga K x)) (.ref (ga K x)) = some true)
def fExc (x : Str) : Fact := fun K => xfB K (ga K x) && (eqO (PySem.W.findIn K (.ref (ga K x)) "__class__") (some (some (.builtin "object.__class__"))) && (eqO (PySem.W.specialIn K (.builtin "object.__class__") "__get__") (some (some (.builtin "getset_descriptor.__get__"))) &&
  (decide (PySem.W.takesIn K (.builtin "object.__class__") = some true) && decide (PySem.W.mroIn K (ga K x) (.type "object") = some true))))
theorem exc_ok {K : PySem.W.Frag} {x : Str} (h : fExc x K = true) : ExcC K (ga K x) ∧ XfC K (ga K x) := by
  obtain ⟨h1, h⟩ := ba h
  obtain ⟨h2, h⟩ := ba h
  obtain ⟨h3, h⟩ := ba h
  obtain ⟨h4, h5⟩ := ba h
  have T := xfB_ok h1
  exact ⟨⟨T.ga, T.gg, T.exC, T.hdC, eqO_ok h2, eqO_ok h3, of_decide_eq_true h4, of_decide_eq_true h5⟩, T⟩
def fKit (x y : Str) (b : Bool) : Fact := fun K => decide (PySem.W.kitOne K (.ref (ga K x)) (.ref (ga K y)) = some b)
def fSm (x m : Str) : Fact := fun K => He5.wrapB K (ga K x) "staticmethod" "staticmethod.__get__" m && PySem.W.keepIn K (.ref (He5.wf K (ga K x) "staticmethod" m))
theorem sm_ok {K : PySem.W.Frag} {x m : Str} (h : fSm x m K = true) : SMet K (ga K x) (.type "type") m (ma K (ga K x) m) (He5.wf K (ga K x) "staticmethod" m) := by
  obtain ⟨h1, h2⟩ := ba h
  obtain ⟨a, b⟩ := He5.wrapB_ok h1
  exact ⟨a, b, h2⟩
end HW

set_option Elab.async false
set_option linter.all false
set_option maxRecDepth 100000
set_option maxHeartbeats 0
namespace HdT
open PySem PySem.Spec L2 He HW
open PyProof.Rows hiding St
def top (i : Nat) : Stmt := PySem.Challenge.pw_copiesfollow_k82_whole_frontier.main.body.getD i (.Pass ⟨0, 0, 0, 0⟩)
abbrev s0 : Stmt := top 12
def d0 : He5.DefA := ⟨fun K => He.ga K "check_mark", "check_mark", "check_mark", defArgs s0, defBody s0, defScope s0, [], []⟩
abbrev s1 : Stmt := top 13
def d1 : He5.DefA := ⟨fun K => He.ga K "check_allowed", "check_allowed", "check_allowed", defArgs s1, defBody s1, defScope s1, [], []⟩
abbrev s2 : Stmt := top 14
def d2 : He5.DefA := ⟨fun K => He.ga K "stands_below", "stands_below", "stands_below", defArgs s2, defBody s2, defScope s2, [], []⟩
abbrev s3 : Stmt := top 18
def d3 : He5.DefA := ⟨fun K => He.ga K "sum_of", "sum_of", "sum_of", defArgs s3, defBody s3, defScope s3, [], []⟩
abbrev s4 : Stmt := top 19
def d4 : He5.DefA := ⟨fun K => He.ga K "mark_gap", "mark_gap", "mark_gap", defArgs s4, defBody s4, defScope s4, [], []⟩
abbrev s5 : Stmt := top 20
def d5 : He5.DefA := ⟨fun K => He.ga K "term_at_most", "term_at_most", "term_at_most", defArgs s5, defBody s5, defScope s5, [], []⟩
abbrev s6 : Stmt := top 21
def d6 : He5.DefA := ⟨fun K => He.ga K "clause_at_most", "clause_at_most", "clause_at_most", defArgs s6, defBody s6, defScope s6, [], []⟩
abbrev s7 : Stmt := top 22
def d7 : He5.DefA := ⟨fun K => He.ga K "clauses_at_most", "clauses_at_most", "clauses_at_most", defArgs s7, defBody s7, defScope s7, [], []⟩
abbrev s8 : Stmt := top 24
def d8 : He5.DefA := ⟨fun K => He.ga K "smallest", "smallest", "smallest", defArgs s8, defBody s8, defScope s8, [], []⟩
abbrev s9 : Stmt := top 25
def d9 : He5.DefA := ⟨fun K => He.ga K "largest", "largest", "largest", defArgs s9, defBody s9, defScope s9, [], []⟩
abbrev s10 : Stmt := top 26
def d10 : He5.DefA := ⟨fun K => He.ga K "rank", "rank", "rank", defArgs s10, defBody s10, defScope s10, [], []⟩
abbrev s11 : Stmt := top 27
def d11 : He5.DefA := ⟨fun K => He.ga K "in_order", "in_order", "in_order", defArgs s11, defBody s11, defScope s11, [], []⟩
abbrev s12 : Stmt := top 28
def d12 : He5.DefA := ⟨fun K => He.ga K "normal", "normal", "normal", defArgs s12, defBody s12, defScope s12, [], []⟩
abbrev s13 : Stmt := top 31
def d13 : He5.DefA := ⟨fun K => He.ga K "at_most", "at_most", "at_most", defArgs s13, defBody s13, defScope s13, [], []⟩
abbrev s14 : Stmt := top 33
def d14 : He5.DefA := ⟨fun K => He.ga K "check_clauses", "check_clauses", "check_clauses", defArgs s14, defBody s14, defScope s14, [], []⟩
abbrev s15 : Stmt := inClass (top 34) 0
def d15 : He5.DefA := ⟨fun K => He.ma K (He.ga K "Rule") "__init__", "__init__", "Rule.__init__", defArgs s15, defBody s15, defScope s15, [], []⟩
abbrev s16 : Stmt := inClass (top 34) 1
def d16 : He5.DefA := ⟨fun K => He5.wf K (He.ga K "Rule") "classmethod" "of", "of", "Rule.of", defArgs s16, defBody s16, defScope s16, [.int 0], []⟩
abbrev s17 : Stmt := inClass (top 34) 2
def d17 : He5.DefA := ⟨fun K => He5.wf K (He.ga K "Rule") "property" "clauses", "clauses", "Rule.clauses", defArgs s17, defBody s17, defScope s17, [], []⟩
abbrev s18 : Stmt := top 36
def d18 : He5.DefA := ⟨fun K => He.ga K "is_whole", "is_whole", "is_whole", defArgs s18, defBody s18, defScope s18, [], []⟩
abbrev s19 : Stmt := top 39
def d19 : He5.DefA := ⟨fun K => He.ga K "is_bound", "is_bound", "is_bound", defArgs s19, defBody s19, defScope s19, [], []⟩
abbrev s20 : Stmt := top 40
def d20 : He5.DefA := ⟨fun K => He.ga K "bound_at_most", "bound_at_most", "bound_at_most", defArgs s20, defBody s20, defScope s20, [], []⟩
abbrev s21 : Stmt := inClass (top 41) 0
def d21 : He5.DefA := ⟨fun K => He.ma K (He.ga K "World") "__init__", "__init__", "World.__init__", defArgs s21, defBody s21, defScope s21, [.non, .non], []⟩
abbrev s22 : Stmt := inClass (top 41) 1
def d22 : He5.DefA := ⟨fun K => He5.wf K (He.ga K "World") "staticmethod" "wide", "wide", "World.wide", defArgs s22, defBody s22, defScope s22, [], []⟩
abbrev s23 : Stmt := inClass (top 41) 5
def d23 : He5.DefA := ⟨fun K => He.ma K (He.ga K "World") "__le__", "__le__", "World.__le__", defArgs s23, defBody s23, defScope s23, [], []⟩
abbrev s24 : Stmt := top 43
def d24 : He5.DefA := ⟨fun K => He.ga K "safe", "safe", "safe", defArgs s24, defBody s24, defScope s24, [], []⟩
abbrev s25 : Stmt := top 44
def d25 : He5.DefA := ⟨fun K => He.ga K "clause_length", "clause_length", "clause_length", defArgs s25, defBody s25, defScope s25, [], []⟩
abbrev s26 : Stmt := top 45
def d26 : He5.DefA := ⟨fun K => He.ga K "safe_length", "safe_length", "safe_length", defArgs s26, defBody s26, defScope s26, [], []⟩
abbrev s27 : Stmt := top 46
def d27 : He5.DefA := ⟨fun K => He.ga K "frontier", "frontier", "frontier", defArgs s27, defBody s27, defScope s27, [], []⟩
abbrev s28 : Stmt := top 48
def d28 : He5.DefA := ⟨fun K => He.ga K "_law_same", "_law_same", "_law_same", defArgs s28, defBody s28, defScope s28, [], []⟩
abbrev s29 : Stmt := top 49
def d29 : He5.DefA := ⟨fun K => He.ga K "_law_start", "_law_start", "_law_start", defArgs s29, defBody s29, defScope s29, [], []⟩
abbrev s30 : Stmt := top 50
def d30 : He5.DefA := ⟨fun K => He.ga K "_law_mixed", "_law_mixed", "_law_mixed", defArgs s30, defBody s30, defScope s30, [], []⟩
abbrev s31 : Stmt := top 51
def d31 : He5.DefA := ⟨fun K => He.ga K "_law_draw", "_law_draw", "_law_draw", defArgs s31, defBody s31, defScope s31, [], []⟩
abbrev s32 : Stmt := top 52
def d32 : He5.DefA := ⟨fun K => He.ga K "_law_clauses", "_law_clauses", "_law_clauses", defArgs s32, defBody s32, defScope s32, [], []⟩
abbrev s33 : Stmt := top 53
def d33 : He5.DefA := ⟨fun K => He.ga K "_law_bound", "_law_bound", "_law_bound", defArgs s33, defBody s33, defScope s33, [], []⟩
abbrev s34 : Stmt := top 54
def d34 : He5.DefA := ⟨fun K => He.ga K "_law_under", "_law_under", "_law_under", defArgs s34, defBody s34, defScope s34, [], []⟩
abbrev s35 : Stmt := top 55
def d35 : He5.DefA := ⟨fun K => He.ga K "_law_gap", "_law_gap", "_law_gap", defArgs s35, defBody s35, defScope s35, [], []⟩
abbrev s36 : Stmt := top 56
def d36 : He5.DefA := ⟨fun K => He.ga K "_law_term_below", "_law_term_below", "_law_term_below", defArgs s36, defBody s36, defScope s36, [], []⟩
abbrev s37 : Stmt := top 57
def d37 : He5.DefA := ⟨fun K => He.ga K "_law_clause_below", "_law_clause_below", "_law_clause_below", defArgs s37, defBody s37, defScope s37, [], []⟩
abbrev s38 : Stmt := top 58
def d38 : He5.DefA := ⟨fun K => He.ga K "_law_rule_below", "_law_rule_below", "_law_rule_below", defArgs s38, defBody s38, defScope s38, [], []⟩
abbrev s39 : Stmt := top 59
def d39 : He5.DefA := ⟨fun K => He.ga K "_law_length", "_law_length", "_law_length", defArgs s39, defBody s39, defScope s39, [], []⟩
abbrev s40 : Stmt := top 60
def d40 : He5.DefA := ⟨fun K => He.ga K "_law_frontier", "_law_frontier", "_law_frontier", defArgs s40, defBody s40, defScope s40, [], []⟩
abbrev s41 : Stmt := top 61
def d41 : He5.DefA := ⟨fun K => He.ga K "_law_next_bound", "_law_next_bound", "_law_next_bound", defArgs s41, defBody s41, defScope s41, [], []⟩
abbrev s42 : Stmt := top 62
def d42 : He5.DefA := ⟨fun K => He.ga K "_law_greatest", "_law_greatest", "_law_greatest", defArgs s42, defBody s42, defScope s42, [], []⟩
abbrev s43 : Stmt := top 63
def d43 : He5.DefA := ⟨fun K => He.ga K "_law_told", "_law_told", "_law_told", defArgs s43, defBody s43, defScope s43, [], []⟩
abbrev s44 : Stmt := top 64
def d44 : He5.DefA := ⟨fun K => He.ga K "_law_refused", "_law_refused", "_law_refused", defArgs s44, defBody s44, defScope s44, [], []⟩
abbrev s45 : Stmt := top 65
def d45 : He5.DefA := ⟨fun K => He.ga K "law", "law", "law", defArgs s45, defBody s45, defScope s45, [], []⟩
abbrev es0 : Stmt := inClass (top 3) 0
def e0 : ErrA := ⟨"WrongMark", "WrongMark.__init__", defArgs es0, defBody es0, defScope es0⟩
def er : List ErrA := [e0]
def fn : List He5.DefA := [d0, d1, d2, d3, d4, d5, d6, d7, d8, d9, d10, d11, d12, d13, d14, d15, d16, d17, d18, d19, d20, d21, d22, d23, d24, d25, d26, d27, d28, d29, d30, d31, d32, d33, d34, d35, d36, d37, d38, d39, d40, d41, d42, d43, d44, d45]
def tb_ABOVE : List (PySem.Str × Tv) := [("zero", .tup ["zero", "calm", "owed", "done", "end", "own", "got"]), ("calm", .tup ["calm", "owed", "done", "end"]), ("owed", .tup ["owed", "done", "end"]), ("done", .tup ["done", "end"]), ("end", .tup ["end"]), ("own", .tup ["own", "got", "end"]), ("got", .tup ["got", "end"])]
def fa : List Fact := [fGlo "check_mark",
  fGlo "check_allowed",
  fGlo "stands_below",
  fGlo "sum_of",
  fGlo "mark_gap",
  fGlo "term_at_most",
  fGlo "clause_at_most",
  fGlo "clauses_at_most",
  fGlo "smallest",
  fGlo "largest",
  fGlo "rank",
  fGlo "in_order",
  fGlo "normal",
  fGlo "check_clauses",
  fGlo "at_most",
  fGlo "is_whole",
  fGlo "is_bound",
  fGlo "bound_at_most",
  fGlo "safe",
  fGlo "clause_length",
  fGlo "safe_length",
  fGlo "frontier",
  fGlo "_law_same",
  fGlo "_law_start",
  fGlo "_law_mixed",
  fGlo "_law_draw",
  fGlo "_law_clauses",
  fGlo "_law_bound",
  fGlo "_law_under",
  fGlo "_law_gap",
  fGlo "_law_term_below",
  fGlo "_law_clause_below",
  fGlo "_law_rule_below",
  fGlo "_law_length",
  fGlo "_law_frontier",
  fGlo "_law_next_bound",
  fGlo "_law_greatest",
  fGlo "_law_told",
  fGlo "_law_refused",
  fGlo "law",
  fGlo "Rule",
  fCls "Rule",
  fMkr "Rule",
  fGlo "World",
  fCls "World",
  fMkr "World",
  fFree "len",
  fFree "any",
  fFree "max",
  fFree "int",
  fFree "tuple",
  fFree "list",
  fFree "isinstance",
  fFree "bool",
  fFree "str",
  fFree "dict",
  fFree "range",
  fFree "super",
  fInt "BACK_LIMIT" 99,
  fInt "BOUND_LIMIT" 49,
  fNoat "Rule" "_clauses",
  fNoat "Rule" "marks",
  fNoat "Rule" "back",
  fNoat "World" "lag",
  fNoat "World" "length",
  fProp "Rule" "clauses",
  fRead "Rule",
  fRead "World",
  fCm "Rule" "of",
  fSm "World" "wide",
  fNotF "World",
  fDun "World" "__le__",
  fIsi "World",
  fTup "MARKS" ["zero", "calm", "owed", "done", "end", "own", "got"],
  fTup "KEEP_MARKS" ["zero", "calm", "owed", "done", "end"],
  fTab "ABOVE" tb_ABOVE,
  fGlo "WrongMark",
  fGlo "SlotError",
  fGlo "UnknownMark",
  fErr "WrongMark" ["mark"] "WrongMark.__init__" "/claim/cut.py",
  fExm "WrongMark",
  fExc "WrongMark",
  fKit "WrongMark" "SlotError" true,
  fKit "WrongMark" "UnknownMark" false]
def ts : List Tab := [(fun K => ga K "ABOVE", [("zero" : PySem.Str), ("calm" : PySem.Str), ("owed" : PySem.Str), ("done" : PySem.Str), ("end" : PySem.Str), ("own" : PySem.Str), ("got" : PySem.Str)])]
def nm0 : List PySem.Str := [("SlotError" : PySem.Str), ("UnknownMark" : PySem.Str), ("WrongMark" : PySem.Str), ("MissingMark" : PySem.Str), ("EmptyRule" : PySem.Str), ("BadBack" : PySem.Str), ("BadWorld" : PySem.Str), ("MARKS" : PySem.Str), ("KEEP_MARKS" : PySem.Str), ("ABOVE" : PySem.Str), ("check_mark" : PySem.Str), ("check_allowed" : PySem.Str), ("stands_below" : PySem.Str), ("on_ladder" : PySem.Str), ("BACK_LIMIT" : PySem.Str), ("sum_of" : PySem.Str), ("mark_gap" : PySem.Str), ("term_at_most" : PySem.Str), ("clause_at_most" : PySem.Str), ("clauses_at_most" : PySem.Str), ("clause_value" : PySem.Str), ("smallest" : PySem.Str), ("largest" : PySem.Str), ("rank" : PySem.Str), ("in_order" : PySem.Str), ("normal" : PySem.Str), ("clause_text" : PySem.Str), ("at_most" : PySem.Str), ("check_clauses" : PySem.Str), ("Rule" : PySem.Str), ("is_whole" : PySem.Str), ("BOUND_LIMIT" : PySem.Str), ("is_bound" : PySem.Str), ("bound_at_most" : PySem.Str), ("World" : PySem.Str)]
def nm1 : List PySem.Str := [("safe" : PySem.Str), ("clause_length" : PySem.Str), ("safe_length" : PySem.Str), ("frontier" : PySem.Str), ("_law_same" : PySem.Str), ("_law_start" : PySem.Str), ("_law_mixed" : PySem.Str), ("_law_draw" : PySem.Str), ("_law_clauses" : PySem.Str), ("_law_bound" : PySem.Str), ("_law_under" : PySem.Str), ("_law_gap" : PySem.Str), ("_law_term_below" : PySem.Str), ("_law_clause_below" : PySem.Str), ("_law_rule_below" : PySem.Str), ("_law_length" : PySem.Str), ("_law_frontier" : PySem.Str), ("_law_next_bound" : PySem.Str), ("_law_greatest" : PySem.Str), ("_law_told" : PySem.Str), ("_law_refused" : PySem.Str)]
def nms : List PySem.Str := nm0 ++ nm1
abbrev R : PySem.W.OpenRow := PySem.W.OpenLaw.row PySem.Challenge.rw_copiesfollow_k82_whole_frontier
abbrev hk : PySem.W.Hook := hookE fa fn ts er
def ob (s : PySem.W.SharedT) : AlE := obsEG fa fn ts er (HandSHeadRun.getT s)
theorem ob_eq (s : PySem.W.SharedT) : ob s = hk.obs s.abs := obsEG_eq (HandSHeadRun.getT_eq s)
theorem runF (w : World) : HandSHeadRun.RunEq R (PySem.W.view R.prog [65]) hk ob 20000 nms (w.withFollow "special-get-raises" false) := by
  intro os
  kernel_rfl
theorem runT (w : World) : HandSHeadRun.RunEq R (PySem.W.view R.prog [65]) hk ob 20000 nms (w.withFollow "special-get-raises" true) := by
  intro os
  kernel_rfl
theorem run (w : World) : HandSHeadRun.RunEq R (PySem.W.view R.prog [65]) hk ob 20000 nms w := PySem.W.byRow2 "special-get-raises" (P := fun w => HandSHeadRun.RunEq R (PySem.W.view R.prog [65]) hk ob 20000 nms w) runF runT w
end HdT

set_option Elab.async false
set_option linter.all false
set_option maxRecDepth 100000
set_option maxHeartbeats 0
namespace Wk
open PySem PySem.Spec L2 He HW DL HdT
open PyProof.Rows hiding St

variable {w : World} {K : PySem.W.Frag} {h : Heap} {mg : Str → Option Value}
def Pg : Program := PySem.Challenge.pw_copiesfollow_k82_whole_frontier
theorem pg_file : ((Pg.main.file : Str) == ("/claim/cut.py" : Str)) = true := by kernel_rfl
theorem pg_top : (Pg.main.scope.names.lookup ("super" : Str)).isSome = false := by kernel_rfl
theorem g_check_mark (X : K.In h) (G : h.Ns mainGlobals mg) (c : SaysE fa fn ts er w K) : mg "check_mark" = some (.ref (ga K "check_mark")) := glo_ok X G (c.fact 0 (f := fGlo "check_mark") rfl)
theorem g_check_allowed (X : K.In h) (G : h.Ns mainGlobals mg) (c : SaysE fa fn ts er w K) : mg "check_allowed" = some (.ref (ga K "check_allowed")) := glo_ok X G (c.fact 1 (f := fGlo "check_allowed") rfl)
theorem g_stands_below (X : K.In h) (G : h.Ns mainGlobals mg) (c : SaysE fa fn ts er w K) : mg "stands_below" = some (.ref (ga K "stands_below")) := glo_ok X G (c.fact 2 (f := fGlo "stands_below") rfl)
theorem g_sum_of (X : K.In h) (G : h.Ns mainGlobals mg) (c : SaysE fa fn ts er w K) : mg "sum_of" = some (.ref (ga K "sum_of")) := glo_ok X G (c.fact 3 (f := fGlo "sum_of") rfl)
theorem g_mark_gap (X : K.In h) (G : h.Ns mainGlobals mg) (c : SaysE fa fn ts er w K) : mg "mark_gap" = some (.ref (ga K "mark_gap")) := glo_ok X G (c.fact 4 (f := fGlo "mark_gap") rfl)
theorem g_term_at_most (X : K.In h) (G : h.Ns mainGlobals mg) (c : SaysE fa fn ts er w K) : mg "term_at_most" = some (.ref (ga K "term_at_most")) := glo_ok X G (c.fact 5 (f := fGlo "term_at_most") rfl)
theorem g_clause_at_most (X : K.In h) (G : h.Ns mainGlobals mg) (c : SaysE fa fn ts er w K) : mg "clause_at_most" = some (.ref (ga K "clause_at_most")) := glo_ok X G (c.fact 6 (f := fGlo "clause_at_most") rfl)
theorem g_clauses_at_most (X : K.In h) (G : h.Ns mainGlobals mg) (c : SaysE fa fn ts er w K) : mg "clauses_at_most" = some (.ref (ga K "clauses_at_most")) := glo_ok X G (c.fact 7 (f := fGlo "clauses_at_most") rfl)
theorem g_smallest (X : K.In h) (G : h.Ns mainGlobals mg) (c : SaysE fa fn ts er w K) : mg "smallest" = some (.ref (ga K "smallest")) := glo_ok X G (c.fact 8 (f := fGlo "smallest") rfl)
theorem g_largest (X : K.In h) (G : h.Ns mainGlobals mg) (c : SaysE fa fn ts er w K) : mg "largest" = some (.ref (ga K "largest")) := glo_ok X G (c.fact 9 (f := fGlo "largest") rfl)
theorem g_rank (X : K.In h) (G : h.Ns mainGlobals mg) (c : SaysE fa fn ts er w K) : mg "rank" = some (.ref (ga K "rank")) := glo_ok X G (c.fact 10 (f := fGlo "rank") rfl)
theorem g_in_order (X : K.In h) (G : h.Ns mainGlobals mg) (c : SaysE fa fn ts er w K) : mg "in_order" = some (.ref (ga K "in_order")) := glo_ok X G (c.fact 11 (f := fGlo "in_order") rfl)
theorem g_normal (X : K.In h) (G : h.Ns mainGlobals mg) (c : SaysE fa fn ts er w K) : mg "normal" = some (.ref (ga K "normal")) := glo_ok X G (c.fact 12 (f := fGlo "normal") rfl)
theorem g_check_clauses (X : K.In h) (G : h.Ns mainGlobals mg) (c : SaysE fa fn ts er w K) : mg "check_clauses" = some (.ref (ga K "check_clauses")) := glo_ok X G (c.fact 13 (f := fGlo "check_clauses") rfl)
theorem g_at_most (X : K.In h) (G : h.Ns mainGlobals mg) (c : SaysE fa fn ts er w K) : mg "at_most" = some (.ref (ga K "at_most")) := glo_ok X G (c.fact 14 (f := fGlo "at_most") rfl)
theorem g_is_whole (X : K.In h) (G : h.Ns mainGlobals mg) (c : SaysE fa fn ts er w K) : mg "is_whole" = some (.ref (ga K "is_whole")) := glo_ok X G (c.fact 15 (f := fGlo "is_whole") rfl)
theorem g_is_bound (X : K.In h) (G : h.Ns mainGlobals mg) (c : SaysE fa fn ts er w K) : mg "is_bound" = some (.ref (ga K "is_bound")) := glo_ok X G (c.fact 16 (f := fGlo "is_bound") rfl)
theorem g_bound_at_most (X : K.In h) (G : h.Ns mainGlobals mg) (c : SaysE fa fn ts er w K) : mg "bound_at_most" = some (.ref (ga K "bound_at_most")) := glo_ok X G (c.fact 17 (f := fGlo "bound_at_most") rfl)
theorem g_safe (X : K.In h) (G : h.Ns mainGlobals mg) (c : SaysE fa fn ts er w K) : mg "safe" = some (.ref (ga K "safe")) := glo_ok X G (c.fact 18 (f := fGlo "safe") rfl)
theorem g_clause_length (X : K.In h) (G : h.Ns mainGlobals mg) (c : SaysE fa fn ts er w K) : mg "clause_length" = some (.ref (ga K "clause_length")) := glo_ok X G (c.fact 19 (f := fGlo "clause_length") rfl)
theorem g_safe_length (X : K.In h) (G : h.Ns mainGlobals mg) (c : SaysE fa fn ts er w K) : mg "safe_length" = some (.ref (ga K "safe_length")) := glo_ok X G (c.fact 20 (f := fGlo "safe_length") rfl)
theorem g_frontier (X : K.In h) (G : h.Ns mainGlobals mg) (c : SaysE fa fn ts er w K) : mg "frontier" = some (.ref (ga K "frontier")) := glo_ok X G (c.fact 21 (f := fGlo "frontier") rfl)
theorem g__law_same (X : K.In h) (G : h.Ns mainGlobals mg) (c : SaysE fa fn ts er w K) : mg "_law_same" = some (.ref (ga K "_law_same")) := glo_ok X G (c.fact 22 (f := fGlo "_law_same") rfl)
theorem g__law_start (X : K.In h) (G : h.Ns mainGlobals mg) (c : SaysE fa fn ts er w K) : mg "_law_start" = some (.ref (ga K "_law_start")) := glo_ok X G (c.fact 23 (f := fGlo "_law_start") rfl)
theorem g__law_mixed (X : K.In h) (G : h.Ns mainGlobals mg) (c : SaysE fa fn ts er w K) : mg "_law_mixed" = some (.ref (ga K "_law_mixed")) := glo_ok X G (c.fact 24 (f := fGlo "_law_mixed") rfl)
theorem g__law_draw (X : K.In h) (G : h.Ns mainGlobals mg) (c : SaysE fa fn ts er w K) : mg "_law_draw" = some (.ref (ga K "_law_draw")) := glo_ok X G (c.fact 25 (f := fGlo "_law_draw") rfl)
theorem g__law_clauses (X : K.In h) (G : h.Ns mainGlobals mg) (c : SaysE fa fn ts er w K) : mg "_law_clauses" = some (.ref (ga K "_law_clauses")) := glo_ok X G (c.fact 26 (f := fGlo "_law_clauses") rfl)
theorem g__law_bound (X : K.In h) (G : h.Ns mainGlobals mg) (c : SaysE fa fn ts er w K) : mg "_law_bound" = some (.ref (ga K "_law_bound")) := glo_ok X G (c.fact 27 (f := fGlo "_law_bound") rfl)
theorem g__law_under (X : K.In h) (G : h.Ns mainGlobals mg) (c : SaysE fa fn ts er w K) : mg "_law_under" = some (.ref (ga K "_law_under")) := glo_ok X G (c.fact 28 (f := fGlo "_law_under") rfl)
theorem g__law_gap (X : K.In h) (G : h.Ns mainGlobals mg) (c : SaysE fa fn ts er w K) : mg "_law_gap" = some (.ref (ga K "_law_gap")) := glo_ok X G (c.fact 29 (f := fGlo "_law_gap") rfl)
theorem g__law_term_below (X : K.In h) (G : h.Ns mainGlobals mg) (c : SaysE fa fn ts er w K) : mg "_law_term_below" = some (.ref (ga K "_law_term_below")) := glo_ok X G (c.fact 30 (f := fGlo "_law_term_below") rfl)
theorem g__law_clause_below (X : K.In h) (G : h.Ns mainGlobals mg) (c : SaysE fa fn ts er w K) : mg "_law_clause_below" = some (.ref (ga K "_law_clause_below")) := glo_ok X G (c.fact 31 (f := fGlo "_law_clause_below") rfl)
theorem g__law_rule_below (X : K.In h) (G : h.Ns mainGlobals mg) (c : SaysE fa fn ts er w K) : mg "_law_rule_below" = some (.ref (ga K "_law_rule_below")) := glo_ok X G (c.fact 32 (f := fGlo "_law_rule_below") rfl)
theorem g__law_length (X : K.In h) (G : h.Ns mainGlobals mg) (c : SaysE fa fn ts er w K) : mg "_law_length" = some (.ref (ga K "_law_length")) := glo_ok X G (c.fact 33 (f := fGlo "_law_length") rfl)
theorem g__law_frontier (X : K.In h) (G : h.Ns mainGlobals mg) (c : SaysE fa fn ts er w K) : mg "_law_frontier" = some (.ref (ga K "_law_frontier")) := glo_ok X G (c.fact 34 (f := fGlo "_law_frontier") rfl)
theorem g__law_next_bound (X : K.In h) (G : h.Ns mainGlobals mg) (c : SaysE fa fn ts er w K) : mg "_law_next_bound" = some (.ref (ga K "_law_next_bound")) := glo_ok X G (c.fact 35 (f := fGlo "_law_next_bound") rfl)
theorem g__law_greatest (X : K.In h) (G : h.Ns mainGlobals mg) (c : SaysE fa fn ts er w K) : mg "_law_greatest" = some (.ref (ga K "_law_greatest")) := glo_ok X G (c.fact 36 (f := fGlo "_law_greatest") rfl)
theorem g__law_told (X : K.In h) (G : h.Ns mainGlobals mg) (c : SaysE fa fn ts er w K) : mg "_law_told" = some (.ref (ga K "_law_told")) := glo_ok X G (c.fact 37 (f := fGlo "_law_told") rfl)
theorem g__law_refused (X : K.In h) (G : h.Ns mainGlobals mg) (c : SaysE fa fn ts er w K) : mg "_law_refused" = some (.ref (ga K "_law_refused")) := glo_ok X G (c.fact 38 (f := fGlo "_law_refused") rfl)
theorem g_law (X : K.In h) (G : h.Ns mainGlobals mg) (c : SaysE fa fn ts er w K) : mg "law" = some (.ref (ga K "law")) := glo_ok X G (c.fact 39 (f := fGlo "law") rfl)
theorem g_Rule (X : K.In h) (G : h.Ns mainGlobals mg) (c : SaysE fa fn ts er w K) : mg "Rule" = some (.ref (ga K "Rule")) := glo_ok X G (c.fact 40 (f := fGlo "Rule") rfl)
theorem kl_Rule (X : K.In h) (G : h.Ns mainGlobals mg) (c : SaysE fa fn ts er w K) : ClsD K mg "Rule" (ga K "Rule") := clsD_ok X G (c.fact 40 (f := fGlo "Rule") rfl) (c.fact 41 (f := fCls "Rule") rfl)
theorem km_Rule (c : SaysE fa fn ts er w K) : Mk K (ga K "Rule") (ma K (ga K "Rule") "__init__") := mkr_ok (c.fact 42 (f := fMkr "Rule") rfl)
theorem g_World (X : K.In h) (G : h.Ns mainGlobals mg) (c : SaysE fa fn ts er w K) : mg "World" = some (.ref (ga K "World")) := glo_ok X G (c.fact 43 (f := fGlo "World") rfl)
theorem kl_World (X : K.In h) (G : h.Ns mainGlobals mg) (c : SaysE fa fn ts er w K) : ClsD K mg "World" (ga K "World") := clsD_ok X G (c.fact 43 (f := fGlo "World") rfl) (c.fact 44 (f := fCls "World") rfl)
theorem km_World (c : SaysE fa fn ts er w K) : Mk K (ga K "World") (ma K (ga K "World") "__init__") := mkr_ok (c.fact 45 (f := fMkr "World") rfl)
theorem n_len (X : K.In h) (G : h.Ns mainGlobals mg) (c : SaysE fa fn ts er w K) : mg "len" = none := free_ok X G (c.fact 46 (f := fFree "len") rfl)
theorem n_any (X : K.In h) (G : h.Ns mainGlobals mg) (c : SaysE fa fn ts er w K) : mg "any" = none := free_ok X G (c.fact 47 (f := fFree "any") rfl)
theorem n_max (X : K.In h) (G : h.Ns mainGlobals mg) (c : SaysE fa fn ts er w K) : mg "max" = none := free_ok X G (c.fact 48 (f := fFree "max") rfl)
theorem n_int (X : K.In h) (G : h.Ns mainGlobals mg) (c : SaysE fa fn ts er w K) : mg "int" = none := free_ok X G (c.fact 49 (f := fFree "int") rfl)
theorem n_tuple (X : K.In h) (G : h.Ns mainGlobals mg) (c : SaysE fa fn ts er w K) : mg "tuple" = none := free_ok X G (c.fact 50 (f := fFree "tuple") rfl)
theorem n_list (X : K.In h) (G : h.Ns mainGlobals mg) (c : SaysE fa fn ts er w K) : mg "list" = none := free_ok X G (c.fact 51 (f := fFree "list") rfl)
theorem n_isinstance (X : K.In h) (G : h.Ns mainGlobals mg) (c : SaysE fa fn ts er w K) : mg "isinstance" = none := free_ok X G (c.fact 52 (f := fFree "isinstance") rfl)
theorem n_bool (X : K.In h) (G : h.Ns mainGlobals mg) (c : SaysE fa fn ts er w K) : mg "bool" = none := free_ok X G (c.fact 53 (f := fFree "bool") rfl)
theorem n_str (X : K.In h) (G : h.Ns mainGlobals mg) (c : SaysE fa fn ts er w K) : mg "str" = none := free_ok X G (c.fact 54 (f := fFree "str") rfl)
theorem n_dict (X : K.In h) (G : h.Ns mainGlobals mg) (c : SaysE fa fn ts er w K) : mg "dict" = none := free_ok X G (c.fact 55 (f := fFree "dict") rfl)
theorem n_range (X : K.In h) (G : h.Ns mainGlobals mg) (c : SaysE fa fn ts er w K) : mg "range" = none := free_ok X G (c.fact 56 (f := fFree "range") rfl)
theorem n_super (X : K.In h) (G : h.Ns mainGlobals mg) (c : SaysE fa fn ts er w K) : mg "super" = none := free_ok X G (c.fact 57 (f := fFree "super") rfl)
theorem kc_BACK_LIMIT (X : K.In h) (G : h.Ns mainGlobals mg) (c : SaysE fa fn ts er w K) : ConD K mg "BACK_LIMIT" (.int 99) := con_int X G (c.fact 58 (f := fInt "BACK_LIMIT" 99) rfl)
theorem kc_BOUND_LIMIT (X : K.In h) (G : h.Ns mainGlobals mg) (c : SaysE fa fn ts er w K) : ConD K mg "BOUND_LIMIT" (.int 49) := con_int X G (c.fact 59 (f := fInt "BOUND_LIMIT" 49) rfl)
theorem kf_Rule__clauses (c : SaysE fa fn ts er w K) : NoAttr K (ga K "Rule") "_clauses" := noat_ok (c.fact 60 (f := fNoat "Rule" "_clauses") rfl)
theorem kf_Rule_marks (c : SaysE fa fn ts er w K) : NoAttr K (ga K "Rule") "marks" := noat_ok (c.fact 61 (f := fNoat "Rule" "marks") rfl)
theorem kf_Rule_back (c : SaysE fa fn ts er w K) : NoAttr K (ga K "Rule") "back" := noat_ok (c.fact 62 (f := fNoat "Rule" "back") rfl)
theorem kf_World_lag (c : SaysE fa fn ts er w K) : NoAttr K (ga K "World") "lag" := noat_ok (c.fact 63 (f := fNoat "World" "lag") rfl)
theorem kf_World_length (c : SaysE fa fn ts er w K) : NoAttr K (ga K "World") "length" := noat_ok (c.fact 64 (f := fNoat "World" "length") rfl)
theorem kp_Rule_clauses (c : SaysE fa fn ts er w K) : PropOf K (ga K "Rule") "clauses" (ma K (ga K "Rule") "clauses") (He5.wf K (ga K "Rule") "property" "clauses") := prop_ok (c.fact 65 (f := fProp "Rule" "clauses") rfl)
theorem kr_Rule (c : SaysE fa fn ts er w K) : ClX.CRead K (ga K "Rule") (.type "type") := read_ok (c.fact 66 (f := fRead "Rule") rfl)
theorem kr_World (c : SaysE fa fn ts er w K) : ClX.CRead K (ga K "World") (.type "type") := read_ok (c.fact 67 (f := fRead "World") rfl)
theorem kw_Rule_of (c : SaysE fa fn ts er w K) : ClX.CMet K (ga K "Rule") (.type "type") "of" (ma K (ga K "Rule") "of") (He5.wf K (ga K "Rule") "classmethod" "of") := cm_ok (c.fact 68 (f := fCm "Rule" "of") rfl)
theorem kv_World_wide (c : SaysE fa fn ts er w K) : SMet K (ga K "World") (.type "type") "wide" (ma K (ga K "World") "wide") (He5.wf K (ga K "World") "staticmethod" "wide") := sm_ok (c.fact 69 (f := fSm "World" "wide") rfl)
theorem kq_World (c : SaysE fa fn ts er w K) : PySem.W.notFirst K (ga K "World") (.ref (ga K "World")) = true := (c.fact 70 (f := fNotF "World") rfl)
theorem kd_World___le__ (c : SaysE fa fn ts er w K) : DunD K (ga K "World") "__le__" (ma K (ga K "World") "__le__") := dun_ok (c.fact 71 (f := fDun "World" "__le__") rfl)
theorem kz_World (c : SaysE fa fn ts er w K) : IsiC K (ga K "World") := isi_ok (c.fact 72 (f := fIsi "World") rfl)
def t_MARKS : List Str := ["zero", "calm", "owed", "done", "end", "own", "got"]
theorem kt_MARKS (X : K.In h) (G : h.Ns mainGlobals mg) (c : SaysE fa fn ts er w K) : TupK K mg "MARKS" t_MARKS := tup_ok X G (c.fact 73 (f := fTup "MARKS" ["zero", "calm", "owed", "done", "end", "own", "got"]) rfl)
def t_KEEP_MARKS : List Str := ["zero", "calm", "owed", "done", "end"]
theorem kt_KEEP_MARKS (X : K.In h) (G : h.Ns mainGlobals mg) (c : SaysE fa fn ts er w K) : TupK K mg "KEEP_MARKS" t_KEEP_MARKS := tup_ok X G (c.fact 74 (f := fTup "KEEP_MARKS" ["zero", "calm", "owed", "done", "end"]) rfl)
def tD_ABOVE : List (Str × D) := tb_ABOVE.map fun q => (q.1, q.2.d)
theorem kb_ABOVE (X : K.In h) (G : h.Ns mainGlobals mg) (c : SaysE fa fn ts er w K) : TabD K mg w "ABOVE" tD_ABOVE := tab_ok X G (c.fact 75 (f := fTab "ABOVE" tb_ABOVE) rfl) (c.tab 0 (t := (fun K => ga K "ABOVE", [("zero" : PySem.Str), ("calm" : PySem.Str), ("owed" : PySem.Str), ("done" : PySem.Str), ("end" : PySem.Str), ("own" : PySem.Str), ("got" : PySem.Str)])) rfl)
theorem g_WrongMark (X : K.In h) (G : h.Ns mainGlobals mg) (c : SaysE fa fn ts er w K) : mg "WrongMark" = some (.ref (ga K "WrongMark")) := glo_ok X G (c.fact 76 (f := fGlo "WrongMark") rfl)
theorem g_SlotError (X : K.In h) (G : h.Ns mainGlobals mg) (c : SaysE fa fn ts er w K) : mg "SlotError" = some (.ref (ga K "SlotError")) := glo_ok X G (c.fact 77 (f := fGlo "SlotError") rfl)
theorem g_UnknownMark (X : K.In h) (G : h.Ns mainGlobals mg) (c : SaysE fa fn ts er w K) : mg "UnknownMark" = some (.ref (ga K "UnknownMark")) := glo_ok X G (c.fact 78 (f := fGlo "UnknownMark") rfl)
theorem ef_WrongMark : ErrFn (defArgs es0) (defBody es0) (defScope es0) ["mark"] := ⟨rfl, rfl, rfl, by decide +kernel, by decide +kernel, by decide +kernel, by decide +kernel, by decide, by decide, ⟨_, rfl, rfl⟩, fun _ _ _ _ _ _ _ _ _ us hl => match us, hl with | [_, _], _ => rfl, ⟨_, _, _, _, _, _, _, _, _, rfl, rfl, fun env => ⟨_, rfl⟩⟩⟩
theorem ke_WrongMark (c : SaysE fa fn ts er w K) : ErrC K Pg (ga K "WrongMark") (ma K (ga K "WrongMark") "__init__") ["mark"] := err_ok (e := e0) (file := "/claim/cut.py") (c.fact 79 (f := fErr "WrongMark" ["mark"] "WrongMark.__init__" "/claim/cut.py") rfl) (c.err 0 (e := e0) rfl) pg_file pg_top ef_WrongMark (by decide)
theorem kx_WrongMark (c : SaysE fa fn ts er w K) : PySem.W.exmOne K (.ref (ga K "WrongMark")) (.ref (ga K "WrongMark")) = some true := of_decide_eq_true (c.fact 80 (f := fExm "WrongMark") rfl)
theorem kxe_WrongMark (c : SaysE fa fn ts er w K) : ExcC K (ga K "WrongMark") ∧ XfC K (ga K "WrongMark") := exc_ok (c.fact 81 (f := fExc "WrongMark") rfl)
theorem kit_WrongMark_SlotError (c : SaysE fa fn ts er w K) : PySem.W.kitOne K (.ref (ga K "WrongMark")) (.ref (ga K "SlotError")) = some true := of_decide_eq_true (c.fact 82 (f := fKit "WrongMark" "SlotError" true) rfl)
theorem kit_WrongMark_UnknownMark (c : SaysE fa fn ts er w K) : PySem.W.kitOne K (.ref (ga K "WrongMark")) (.ref (ga K "UnknownMark")) = some false := of_decide_eq_true (c.fact 83 (f := fKit "WrongMark" "UnknownMark" false) rfl)
theorem bt_len : bootBuiltins "len" = some (.builtin "len") := by decide +kernel
theorem bt_any : bootBuiltins "any" = some (.builtin "any") := by decide +kernel
theorem bt_max : bootBuiltins "max" = some (.builtin "max") := by decide +kernel
theorem bt_isinstance : bootBuiltins "isinstance" = some (.builtin "isinstance") := by decide +kernel
theorem bt_int : bootBuiltins "int" = some (.type "int") := by decide +kernel
theorem bt_tuple : bootBuiltins "tuple" = some (.type "tuple") := by decide +kernel
theorem bt_list : bootBuiltins "list" = some (.type "list") := by decide +kernel
theorem bt_bool : bootBuiltins "bool" = some (.type "bool") := by decide +kernel
theorem bt_str : bootBuiltins "str" = some (.type "str") := by decide +kernel
theorem bt_dict : bootBuiltins "dict" = some (.type "dict") := by decide +kernel
theorem kk_check_mark (c : SaysE fa fn ts er w K) : PySem.W.keepIn K (.ref (ga K "check_mark")) = true := by
  obtain ⟨_, F⟩ := c.def_ 0 (d := d0) rfl
  exact F.kp
theorem kk_check_allowed (c : SaysE fa fn ts er w K) : PySem.W.keepIn K (.ref (ga K "check_allowed")) = true := by
  obtain ⟨_, F⟩ := c.def_ 1 (d := d1) rfl
  exact F.kp
theorem kk_stands_below (c : SaysE fa fn ts er w K) : PySem.W.keepIn K (.ref (ga K "stands_below")) = true := by
  obtain ⟨_, F⟩ := c.def_ 2 (d := d2) rfl
  exact F.kp
theorem kk_sum_of (c : SaysE fa fn ts er w K) : PySem.W.keepIn K (.ref (ga K "sum_of")) = true := by
  obtain ⟨_, F⟩ := c.def_ 3 (d := d3) rfl
  exact F.kp
theorem kk_mark_gap (c : SaysE fa fn ts er w K) : PySem.W.keepIn K (.ref (ga K "mark_gap")) = true := by
  obtain ⟨_, F⟩ := c.def_ 4 (d := d4) rfl
  exact F.kp
theorem kk_term_at_most (c : SaysE fa fn ts er w K) : PySem.W.keepIn K (.ref (ga K "term_at_most")) = true := by
  obtain ⟨_, F⟩ := c.def_ 5 (d := d5) rfl
  exact F.kp
theorem kk_clause_at_most (c : SaysE fa fn ts er w K) : PySem.W.keepIn K (.ref (ga K "clause_at_most")) = true := by
  obtain ⟨_, F⟩ := c.def_ 6 (d := d6) rfl
  exact F.kp
theorem kk_clauses_at_most (c : SaysE fa fn ts er w K) : PySem.W.keepIn K (.ref (ga K "clauses_at_most")) = true := by
  obtain ⟨_, F⟩ := c.def_ 7 (d := d7) rfl
  exact F.kp
theorem kk_smallest (c : SaysE fa fn ts er w K) : PySem.W.keepIn K (.ref (ga K "smallest")) = true := by
  obtain ⟨_, F⟩ := c.def_ 8 (d := d8) rfl
  exact F.kp
theorem kk_largest (c : SaysE fa fn ts er w K) : PySem.W.keepIn K (.ref (ga K "largest")) = true := by
  obtain ⟨_, F⟩ := c.def_ 9 (d := d9) rfl
  exact F.kp
theorem kk_rank (c : SaysE fa fn ts er w K) : PySem.W.keepIn K (.ref (ga K "rank")) = true := by
  obtain ⟨_, F⟩ := c.def_ 10 (d := d10) rfl
  exact F.kp
theorem kk_in_order (c : SaysE fa fn ts er w K) : PySem.W.keepIn K (.ref (ga K "in_order")) = true := by
  obtain ⟨_, F⟩ := c.def_ 11 (d := d11) rfl
  exact F.kp
theorem kk_normal (c : SaysE fa fn ts er w K) : PySem.W.keepIn K (.ref (ga K "normal")) = true := by
  obtain ⟨_, F⟩ := c.def_ 12 (d := d12) rfl
  exact F.kp
theorem kk_at_most (c : SaysE fa fn ts er w K) : PySem.W.keepIn K (.ref (ga K "at_most")) = true := by
  obtain ⟨_, F⟩ := c.def_ 13 (d := d13) rfl
  exact F.kp
theorem kk_check_clauses (c : SaysE fa fn ts er w K) : PySem.W.keepIn K (.ref (ga K "check_clauses")) = true := by
  obtain ⟨_, F⟩ := c.def_ 14 (d := d14) rfl
  exact F.kp
theorem kk_is_whole (c : SaysE fa fn ts er w K) : PySem.W.keepIn K (.ref (ga K "is_whole")) = true := by
  obtain ⟨_, F⟩ := c.def_ 18 (d := d18) rfl
  exact F.kp
theorem kk_is_bound (c : SaysE fa fn ts er w K) : PySem.W.keepIn K (.ref (ga K "is_bound")) = true := by
  obtain ⟨_, F⟩ := c.def_ 19 (d := d19) rfl
  exact F.kp
theorem kk_bound_at_most (c : SaysE fa fn ts er w K) : PySem.W.keepIn K (.ref (ga K "bound_at_most")) = true := by
  obtain ⟨_, F⟩ := c.def_ 20 (d := d20) rfl
  exact F.kp
theorem kk_safe (c : SaysE fa fn ts er w K) : PySem.W.keepIn K (.ref (ga K "safe")) = true := by
  obtain ⟨_, F⟩ := c.def_ 24 (d := d24) rfl
  exact F.kp
theorem kk_clause_length (c : SaysE fa fn ts er w K) : PySem.W.keepIn K (.ref (ga K "clause_length")) = true := by
  obtain ⟨_, F⟩ := c.def_ 25 (d := d25) rfl
  exact F.kp
theorem kk_safe_length (c : SaysE fa fn ts er w K) : PySem.W.keepIn K (.ref (ga K "safe_length")) = true := by
  obtain ⟨_, F⟩ := c.def_ 26 (d := d26) rfl
  exact F.kp
theorem kk_frontier (c : SaysE fa fn ts er w K) : PySem.W.keepIn K (.ref (ga K "frontier")) = true := by
  obtain ⟨_, F⟩ := c.def_ 27 (d := d27) rfl
  exact F.kp
theorem kk__law_same (c : SaysE fa fn ts er w K) : PySem.W.keepIn K (.ref (ga K "_law_same")) = true := by
  obtain ⟨_, F⟩ := c.def_ 28 (d := d28) rfl
  exact F.kp
theorem kk__law_start (c : SaysE fa fn ts er w K) : PySem.W.keepIn K (.ref (ga K "_law_start")) = true := by
  obtain ⟨_, F⟩ := c.def_ 29 (d := d29) rfl
  exact F.kp
theorem kk__law_mixed (c : SaysE fa fn ts er w K) : PySem.W.keepIn K (.ref (ga K "_law_mixed")) = true := by
  obtain ⟨_, F⟩ := c.def_ 30 (d := d30) rfl
  exact F.kp
theorem kk__law_draw (c : SaysE fa fn ts er w K) : PySem.W.keepIn K (.ref (ga K "_law_draw")) = true := by
  obtain ⟨_, F⟩ := c.def_ 31 (d := d31) rfl
  exact F.kp
theorem kk__law_clauses (c : SaysE fa fn ts er w K) : PySem.W.keepIn K (.ref (ga K "_law_clauses")) = true := by
  obtain ⟨_, F⟩ := c.def_ 32 (d := d32) rfl
  exact F.kp
theorem kk__law_bound (c : SaysE fa fn ts er w K) : PySem.W.keepIn K (.ref (ga K "_law_bound")) = true := by
  obtain ⟨_, F⟩ := c.def_ 33 (d := d33) rfl
  exact F.kp
theorem kk__law_under (c : SaysE fa fn ts er w K) : PySem.W.keepIn K (.ref (ga K "_law_under")) = true := by
  obtain ⟨_, F⟩ := c.def_ 34 (d := d34) rfl
  exact F.kp
theorem kk__law_gap (c : SaysE fa fn ts er w K) : PySem.W.keepIn K (.ref (ga K "_law_gap")) = true := by
  obtain ⟨_, F⟩ := c.def_ 35 (d := d35) rfl
  exact F.kp
theorem kk__law_term_below (c : SaysE fa fn ts er w K) : PySem.W.keepIn K (.ref (ga K "_law_term_below")) = true := by
  obtain ⟨_, F⟩ := c.def_ 36 (d := d36) rfl
  exact F.kp
theorem kk__law_clause_below (c : SaysE fa fn ts er w K) : PySem.W.keepIn K (.ref (ga K "_law_clause_below")) = true := by
  obtain ⟨_, F⟩ := c.def_ 37 (d := d37) rfl
  exact F.kp
theorem kk__law_rule_below (c : SaysE fa fn ts er w K) : PySem.W.keepIn K (.ref (ga K "_law_rule_below")) = true := by
  obtain ⟨_, F⟩ := c.def_ 38 (d := d38) rfl
  exact F.kp
theorem kk__law_length (c : SaysE fa fn ts er w K) : PySem.W.keepIn K (.ref (ga K "_law_length")) = true := by
  obtain ⟨_, F⟩ := c.def_ 39 (d := d39) rfl
  exact F.kp
theorem kk__law_frontier (c : SaysE fa fn ts er w K) : PySem.W.keepIn K (.ref (ga K "_law_frontier")) = true := by
  obtain ⟨_, F⟩ := c.def_ 40 (d := d40) rfl
  exact F.kp
theorem kk__law_next_bound (c : SaysE fa fn ts er w K) : PySem.W.keepIn K (.ref (ga K "_law_next_bound")) = true := by
  obtain ⟨_, F⟩ := c.def_ 41 (d := d41) rfl
  exact F.kp
theorem kk__law_greatest (c : SaysE fa fn ts er w K) : PySem.W.keepIn K (.ref (ga K "_law_greatest")) = true := by
  obtain ⟨_, F⟩ := c.def_ 42 (d := d42) rfl
  exact F.kp
theorem kk__law_told (c : SaysE fa fn ts er w K) : PySem.W.keepIn K (.ref (ga K "_law_told")) = true := by
  obtain ⟨_, F⟩ := c.def_ 43 (d := d43) rfl
  exact F.kp
theorem kk__law_refused (c : SaysE fa fn ts er w K) : PySem.W.keepIn K (.ref (ga K "_law_refused")) = true := by
  obtain ⟨_, F⟩ := c.def_ 44 (d := d44) rfl
  exact F.kp
theorem kk_law (c : SaysE fa fn ts er w K) : PySem.W.keepIn K (.ref (ga K "law")) = true := by
  obtain ⟨_, F⟩ := c.def_ 45 (d := d45) rfl
  exact F.kp
end Wk

set_option Elab.async false
set_option linter.all false
set_option maxRecDepth 100000
set_option maxHeartbeats 0
namespace Wk
open PySem PySem.Spec L2 He HW DL HdT
open PyProof.Rows hiding St

variable {w : World} {K : PySem.W.Frag} {h base : Heap} {mg : Str → Option Value}
/-! ### check_mark -/
abbrev N_check_mark : List Str := ["mark"]
theorem ndcheck_mark : (N_check_mark).Nodup := by decide
theorem sccheck_mark : FnScope N_check_mark ["mark"] (defScope s0) := ⟨rfl, rfl, rfl, ndcheck_mark, rfl, by decide +kernel, by decide +kernel⟩
noncomputable def b_check_mark : EM Fl := (sIf (t2 gNotIn (eVar 0) (EM.ret (.tup (t_MARKS.map .str)))) sBad sNil)
noncomputable def f_check_mark : EM D := fOf 1 1 b_check_mark
theorem o_check_mark (X : K.In h) (G : h.Ns mainGlobals mg) (c : SaysE fa fn ts er w K) : ∃ fd, FunD K "check_mark" "check_mark" (defArgs s0) (defBody s0) (defScope s0) [] [] (ga K "check_mark") fd ∧ FnOk Pg w K mg base CX0 1 (ga K "check_mark") fd ["mark"] (sp0 K mg f_check_mark) := by
  obtain ⟨fd, F⟩ := c.def_ 0 (d := d0) rfl
  have F : FunD K "check_mark" "check_mark" (defArgs s0) (defBody s0) (defScope s0) [] [] (ga K "check_mark") fd := F
  have O : FnOk Pg w K mg base CX0 (0 + 1) (ga K "check_mark") fd ["mark"] (sp0 K mg (fOf (List.length ["mark"]) N_check_mark.length b_check_mark)) := fn0 (k := 0) (N := N_check_mark) (ps := ["mark"]) (b := b_check_mark) F sccheck_mark (fun cdv A outer s H E hr => (dss_one (ds_if (dt_cmp op_notIn_seq od_notIn (de_var 0 (pv 0)) (de_glob (con_tup (kt_MARKS X G c)) rfl) rfl) dss_bad dss_nil)))
  exact ⟨fd, F, O⟩
theorem r_check_mark (X : K.In h) (G : h.Ns mainGlobals mg) (c : SaysE fa fn ts er w K) : FnR Pg w K mg base CX0 1 (ga K "check_mark") (sp0 K mg f_check_mark) := by
  obtain ⟨fd, F, O⟩ := o_check_mark (base := base) X G c
  exact FnR.all O (F.bindsN fun _ _ _ _ _ _ us hl => match us, hl with | [_], _ => rfl)
/-! ### check_allowed -/
abbrev N_check_allowed : List Str := ["marks", "allowed", "mark"]
theorem ndcheck_allowed : (N_check_allowed).Nodup := by decide
theorem sccheck_allowed : FnScope N_check_allowed ["marks", "allowed"] (defScope s1) := ⟨rfl, rfl, rfl, ndcheck_allowed, rfl, by decide +kernel, by decide +kernel⟩
noncomputable def b_check_allowed : EM Fl := (sFor (.nm 2) (iSeq (eVar 0)) (sIf (t2 gNotIn (eVar 2) (eVar 1)) sBad sNil))
noncomputable def f_check_allowed : EM D := fOf 2 3 b_check_allowed
noncomputable def b_x_check_allowed : EM Fl := (sFor (.nm 2) (iSeq (eVar 0)) (sIf (t2 gNotIn (eVar 2) (eVar 1)) (sRaise "WrongMark" ["mark"] (aCons (eVar 2) aNil)) sNil))
noncomputable def f_x_check_allowed : EM D := fOf 2 3 b_x_check_allowed
theorem r_x_check_allowed (X : K.In h) (G : h.Ns mainGlobals mg) (c : SaysE fa fn ts er w K) : FnR Pg w K mg base (L2.CX Pg w) 3 (ga K "check_allowed") (spG K mg f_x_check_allowed) := by
  obtain ⟨fd, F⟩ := c.def_ 1 (d := d1) rfl
  have F : FunD K "check_allowed" "check_allowed" (defArgs s1) (defBody s1) (defScope s1) [] [] (ga K "check_allowed") fd := F
  have O : FnOk Pg w K mg base (L2.CX Pg w) (2 + 1) (ga K "check_allowed") fd ["marks", "allowed"] (spG K mg (fOf (List.length ["marks", "allowed"]) N_check_allowed.length b_x_check_allowed)) := fnX (k := 2) (N := N_check_allowed) (ps := ["marks", "allowed"]) (b := b_x_check_allowed) F sccheck_allowed (fun cdv A outer s H E hr => (dss_one (ds_for (passes_of rfl) rfl (di_seq (de_var 0 (pv 0))) (dg_nm (pg_name (i := 2) ndcheck_allowed rfl (by first | exact Or.inl rfl | exact Or.inr rfl))) (dss_one (ds_if (dt_cmp op_notIn_seq od_notIn (de_var 2 (pv 2)) (de_var 1 (pv 1)) rfl) (dss_one (ds_raise rfl (takes_of rfl rfl rfl rfl) (ke_WrongMark c) (hr.mono (by decide)) rfl (g_WrongMark X G c) (n_super X G c) (da_cons (de_var 2 (pv 2)) da_nil))) dss_nil)))))
  exact (O.raw (F.bindsN fun _ _ _ _ _ _ us hl => match us, hl with | [_, _], _ => rfl) .nil).imp fun vs H Q E h => by rw [List.append_nil]; exact h
theorem o_check_allowed (X : K.In h) (G : h.Ns mainGlobals mg) (c : SaysE fa fn ts er w K) : ∃ fd, FunD K "check_allowed" "check_allowed" (defArgs s1) (defBody s1) (defScope s1) [] [] (ga K "check_allowed") fd ∧ FnOk Pg w K mg base CX0 1 (ga K "check_allowed") fd ["marks", "allowed"] (sp0 K mg f_check_allowed) := by
  obtain ⟨fd, F⟩ := c.def_ 1 (d := d1) rfl
  have F : FunD K "check_allowed" "check_allowed" (defArgs s1) (defBody s1) (defScope s1) [] [] (ga K "check_allowed") fd := F
  have O : FnOk Pg w K mg base CX0 (0 + 1) (ga K "check_allowed") fd ["marks", "allowed"] (sp0 K mg (fOf (List.length ["marks", "allowed"]) N_check_allowed.length b_check_allowed)) := fn0 (k := 0) (N := N_check_allowed) (ps := ["marks", "allowed"]) (b := b_check_allowed) F sccheck_allowed (fun cdv A outer s H E hr => (dss_one (ds_for PassesOwn.never rfl (di_seq (de_var 0 (pv 0))) (dg_nm (pg_name (i := 2) ndcheck_allowed rfl (by first | exact Or.inl rfl | exact Or.inr rfl))) (dss_one (ds_if (dt_cmp op_notIn_seq od_notIn (de_var 2 (pv 2)) (de_var 1 (pv 1)) rfl) dss_bad dss_nil)))))
  exact ⟨fd, F, O⟩
theorem r_check_allowed (X : K.In h) (G : h.Ns mainGlobals mg) (c : SaysE fa fn ts er w K) : FnR Pg w K mg base CX0 1 (ga K "check_allowed") (sp0 K mg f_check_allowed) := by
  obtain ⟨fd, F, O⟩ := o_check_allowed (base := base) X G c
  exact FnR.all O (F.bindsN fun _ _ _ _ _ _ us hl => match us, hl with | [_, _], _ => rfl)
/-! ### stands_below -/
abbrev N_stands_below : List Str := ["lower", "upper"]
theorem ndstands_below : (N_stands_below).Nodup := by decide
theorem scstands_below : FnScope N_stands_below ["lower", "upper"] (defScope s2) := ⟨rfl, rfl, rfl, ndstands_below, rfl, by decide +kernel, by decide +kernel⟩
noncomputable def b_stands_below : EM Fl := (sRet (e2 (gB gIn) (eVar 1) (eTab tD_ABOVE (eVar 0))))
noncomputable def f_stands_below : EM D := fOf 2 2 b_stands_below
theorem o_stands_below (X : K.In h) (G : h.Ns mainGlobals mg) (c : SaysE fa fn ts er w K) : ∃ fd, FunD K "stands_below" "stands_below" (defArgs s2) (defBody s2) (defScope s2) [] [] (ga K "stands_below") fd ∧ FnOk Pg w K mg base CX0 1 (ga K "stands_below") fd ["lower", "upper"] (sp0 K mg f_stands_below) := by
  obtain ⟨fd, F⟩ := c.def_ 2 (d := d2) rfl
  have F : FunD K "stands_below" "stands_below" (defArgs s2) (defBody s2) (defScope s2) [] [] (ga K "stands_below") fd := F
  have O : FnOk Pg w K mg base CX0 (0 + 1) (ga K "stands_below") fd ["lower", "upper"] (sp0 K mg (fOf (List.length ["lower", "upper"]) N_stands_below.length b_stands_below)) := fn0 (k := 0) (N := N_stands_below) (ps := ["lower", "upper"]) (b := b_stands_below) F scstands_below (fun cdv A outer s H E hr => (dss_one (ds_ret (de_cmp op_in_seq od_in (de_var 1 (pv 1)) (de_tab (kb_ABOVE X G c) rfl (de_var 0 (pv 0))) rfl))))
  exact ⟨fd, F, O⟩
theorem r_stands_below (X : K.In h) (G : h.Ns mainGlobals mg) (c : SaysE fa fn ts er w K) : FnR Pg w K mg base CX0 1 (ga K "stands_below") (sp0 K mg f_stands_below) := by
  obtain ⟨fd, F, O⟩ := o_stands_below (base := base) X G c
  exact FnR.all O (F.bindsN fun _ _ _ _ _ _ us hl => match us, hl with | [_, _], _ => rfl)
/-! ### sum_of -/
abbrev N_sum_of : List Str := ["first", "second"]
theorem ndsum_of : (N_sum_of).Nodup := by decide
theorem scsum_of : FnScope N_sum_of ["first", "second"] (defScope s3) := ⟨rfl, rfl, rfl, ndsum_of, rfl, by decide +kernel, by decide +kernel⟩
noncomputable def b_sum_of : EM Fl := (sSeq (sIf (tOr' ((eVar 0).bind fun d => EM.ret (isN d)) ((eVar 1).bind fun d => EM.ret (isN d))) (sRet (EM.ret .non)) sNil) (sRet (e2 gAdd (eVar 0) (eVar 1))))
noncomputable def f_sum_of : EM D := fOf 2 2 b_sum_of
theorem o_sum_of (X : K.In h) (G : h.Ns mainGlobals mg) (c : SaysE fa fn ts er w K) : ∃ fd, FunD K "sum_of" "sum_of" (defArgs s3) (defBody s3) (defScope s3) [] [] (ga K "sum_of") fd ∧ FnOk Pg w K mg base CX0 1 (ga K "sum_of") fd ["first", "second"] (sp0 K mg f_sum_of) := by
  obtain ⟨fd, F⟩ := c.def_ 3 (d := d3) rfl
  have F : FunD K "sum_of" "sum_of" (defArgs s3) (defBody s3) (defScope s3) [] [] (ga K "sum_of") fd := F
  have O : FnOk Pg w K mg base CX0 (0 + 1) (ga K "sum_of") fd ["first", "second"] (sp0 K mg (fOf (List.length ["first", "second"]) N_sum_of.length b_sum_of)) := fn0 (k := 0) (N := N_sum_of) (ps := ["first", "second"]) (b := b_sum_of) F scsum_of (fun cdv A outer s H E hr => (dss_cons (ds_if (PW.pt (dw_or (dt_isN (de_var 0 (pv 0))) (dw_or1 (dt_isN (de_var 1 (pv 1)))))) (dss_one (ds_ret de_non)) dss_nil) (dss_one (ds_ret (de_op op_addA od_add (de_var 0 (pv 0)) (de_var 1 (pv 1)))))))
  exact ⟨fd, F, O⟩
theorem r_sum_of (X : K.In h) (G : h.Ns mainGlobals mg) (c : SaysE fa fn ts er w K) : FnR Pg w K mg base CX0 1 (ga K "sum_of") (sp0 K mg f_sum_of) := by
  obtain ⟨fd, F, O⟩ := o_sum_of (base := base) X G c
  exact FnR.all O (F.bindsN fun _ _ _ _ _ _ us hl => match us, hl with | [_, _], _ => rfl)
/-! ### mark_gap -/
abbrev N_mark_gap : List Str := ["upper", "lower", "lag", "length"]
theorem ndmark_gap : (N_mark_gap).Nodup := by decide
theorem scmark_gap : FnScope N_mark_gap ["upper", "lower", "lag", "length"] (defScope s4) := ⟨rfl, rfl, rfl, ndmark_gap, rfl, by decide +kernel, by decide +kernel⟩
noncomputable def b_mark_gap : EM Fl := (sSeq (sIf ((eCall0 f_stands_below (aCons (eVar 0) (aCons (eVar 1) aNil))).bind toB) (sRet (EM.ret (.int 0))) sNil) (sSeq (sIf (t2 gEq (eVar 1) (EM.ret (.str "done"))) (sRet (eVar 2)) sNil) (sSeq (sIf (t2 gEq (eVar 1) (EM.ret (.str "owed"))) (sRet (eIf (t2 gEq (eVar 0) (EM.ret (.str "done"))) (eVar 3) (eCall0 f_sum_of (aCons (eVar 2) (aCons (eVar 3) aNil))))) sNil) (sRet (EM.ret .non)))))
noncomputable def f_mark_gap : EM D := fOf 4 4 b_mark_gap
theorem o_mark_gap (X : K.In h) (G : h.Ns mainGlobals mg) (c : SaysE fa fn ts er w K) : ∃ fd, FunD K "mark_gap" "mark_gap" (defArgs s4) (defBody s4) (defScope s4) [] [] (ga K "mark_gap") fd ∧ FnOk Pg w K mg base CX0 2 (ga K "mark_gap") fd ["upper", "lower", "lag", "length"] (sp0 K mg f_mark_gap) := by
  obtain ⟨fd, F⟩ := c.def_ 4 (d := d4) rfl
  have F : FunD K "mark_gap" "mark_gap" (defArgs s4) (defBody s4) (defScope s4) [] [] (ga K "mark_gap") fd := F
  have O : FnOk Pg w K mg base CX0 (1 + 1) (ga K "mark_gap") fd ["upper", "lower", "lag", "length"] (sp0 K mg (fOf (List.length ["upper", "lower", "lag", "length"]) N_mark_gap.length b_mark_gap)) := fn0 (k := 1) (N := N_mark_gap) (ps := ["upper", "lower", "lag", "length"]) (b := b_mark_gap) F scmark_gap (fun cdv A outer s H E hr => (dss_cons (ds_if (dt_val (de_call0 (r_stands_below X G c) (hr.mono (by decide)) rfl (g_stands_below X G c) (kk_stands_below c) (da_cons (de_var 0 (pv 0)) (da_cons (de_var 1 (pv 1)) da_nil)))) (dss_one (ds_ret de_int)) dss_nil) (dss_cons (ds_if (dt_cmp (op_eqA hr.units) od_eq (de_var 1 (pv 1)) de_str (nobehind _ (by decide) (by decide))) (dss_one (ds_ret (de_var 2 (pv 2)))) dss_nil) (dss_cons (ds_if (dt_cmp (op_eqA hr.units) od_eq (de_var 1 (pv 1)) de_str (nobehind _ (by decide) (by decide))) (dss_one (ds_ret (de_if (dt_cmp (op_eqA hr.units) od_eq (de_var 0 (pv 0)) de_str (nobehind _ (by decide) (by decide))) (de_var 3 (pv 3)) (de_call0 (r_sum_of X G c) (hr.mono (by decide)) rfl (g_sum_of X G c) (kk_sum_of c) (da_cons (de_var 2 (pv 2)) (da_cons (de_var 3 (pv 3)) da_nil)))))) dss_nil) (dss_one (ds_ret de_non))))))
  exact ⟨fd, F, O⟩
theorem r_mark_gap (X : K.In h) (G : h.Ns mainGlobals mg) (c : SaysE fa fn ts er w K) : FnR Pg w K mg base CX0 2 (ga K "mark_gap") (sp0 K mg f_mark_gap) := by
  obtain ⟨fd, F, O⟩ := o_mark_gap (base := base) X G c
  exact FnR.all O (F.bindsN fun _ _ _ _ _ _ us hl => match us, hl with | [_, _, _, _], _ => rfl)
/-! ### term_at_most -/
abbrev N_term_at_most : List Str := ["first", "second", "lag", "length", "mark", "back", "gap"]
theorem ndterm_at_most : (N_term_at_most).Nodup := by decide
theorem scterm_at_most : FnScope N_term_at_most ["first", "second", "lag", "length"] (defScope s5) := ⟨rfl, rfl, rfl, ndterm_at_most, rfl, by decide +kernel, by decide +kernel⟩
noncomputable def b_term_at_most : EM Fl := (sSeq (sAsgT (.tp [4, 5]) (eVar 0)) (sSeq (sIf (t2 gEq (eVar 4) (EM.ret (.str "zero"))) (sRet (EM.ret (.bl true))) sNil) (sSeq (sAsg 6 (eCall0 f_mark_gap (aCons (eVar 4) (aCons (eIxV 1 (EM.ret (.int 0))) (aCons (eVar 2) (aCons (eVar 3) aNil)))))) (sRet (eAnd ((eVar 6).bind fun d => EM.ret (.bl (!isN d))) (e2 (gB gLe) (eVar 6) (e2 gSub (eVar 5) (eIxV 1 (EM.ret (.int 1))))))))))
noncomputable def f_term_at_most : EM D := fOf 4 7 b_term_at_most
theorem o_term_at_most (X : K.In h) (G : h.Ns mainGlobals mg) (c : SaysE fa fn ts er w K) : ∃ fd, FunD K "term_at_most" "term_at_most" (defArgs s5) (defBody s5) (defScope s5) [] [] (ga K "term_at_most") fd ∧ FnOk Pg w K mg base CX0 3 (ga K "term_at_most") fd ["first", "second", "lag", "length"] (sp0 K mg f_term_at_most) := by
  obtain ⟨fd, F⟩ := c.def_ 5 (d := d5) rfl
  have F : FunD K "term_at_most" "term_at_most" (defArgs s5) (defBody s5) (defScope s5) [] [] (ga K "term_at_most") fd := F
  have O : FnOk Pg w K mg base CX0 (2 + 1) (ga K "term_at_most") fd ["first", "second", "lag", "length"] (sp0 K mg (fOf (List.length ["first", "second", "lag", "length"]) N_term_at_most.length b_term_at_most)) := fn0 (k := 2) (N := N_term_at_most) (ps := ["first", "second", "lag", "length"]) (b := b_term_at_most) F scterm_at_most (fun cdv A outer s H E hr => (dss_cons (ds_setT (de_var 0 (pv 0)) (pg_tup rfl (dgs_cons (pg_name (i := 4) ndterm_at_most rfl (by first | exact Or.inl rfl | exact Or.inr rfl)) (dgs_cons (pg_name (i := 5) ndterm_at_most rfl (by first | exact Or.inl rfl | exact Or.inr rfl)) dgs_nil)))) (dss_cons (ds_if (dt_cmp (op_eqA hr.units) od_eq (de_var 4 (pv 4)) de_str (nobehind _ (by decide) (by decide))) (dss_one (ds_ret de_bl)) dss_nil) (dss_cons (ds_set (i := 6) ndterm_at_most rfl (by first | exact Or.inl rfl | exact Or.inr rfl) (de_call0 (r_mark_gap X G c) (hr.mono (by decide)) rfl (g_mark_gap X G c) (kk_mark_gap c) (da_cons (de_var 4 (pv 4)) (da_cons (de_ixV 1 (pv 1) de_int) (da_cons (de_var 2 (pv 2)) (da_cons (de_var 3 (pv 3)) da_nil)))))) (dss_one (ds_ret (de_and (de_notN (de_var 6 (pv 6))) (de_one (de_cmp op_le (od_cmp _) (de_var 6 (pv 6)) (de_op op_sub od_sub (de_var 5 (pv 5)) (de_ixV 1 (pv 1) de_int)) (nobehind _ (by decide) (by decide)))))))))))
  exact ⟨fd, F, O⟩
theorem r_term_at_most (X : K.In h) (G : h.Ns mainGlobals mg) (c : SaysE fa fn ts er w K) : FnR Pg w K mg base CX0 3 (ga K "term_at_most") (sp0 K mg f_term_at_most) := by
  obtain ⟨fd, F, O⟩ := o_term_at_most (base := base) X G c
  exact FnR.all O (F.bindsN fun _ _ _ _ _ _ us hl => match us, hl with | [_, _, _, _], _ => rfl)
/-! ### clause_at_most -/
abbrev N_clause_at_most : List Str := ["first", "second", "lag", "length", "upper", "lower"]
theorem ndclause_at_most : (N_clause_at_most).Nodup := by decide
theorem scclause_at_most : FnScope N_clause_at_most ["first", "second", "lag", "length"] (defScope s6) := ⟨rfl, rfl, rfl, ndclause_at_most, rfl, by decide +kernel, by decide +kernel⟩
noncomputable def b_clause_at_most : EM Fl := (sSeq (sFor (.nm 4) (iSeq (eVar 1)) (sIf (tNot' ((eBlt gAny (aCons (eFz (oComp (.nm 5) (EM.ret true) (eCall0 f_term_at_most (aCons (eVar 5) (aCons (eVar 4) (aCons (eVar 2) (aCons (eVar 3) aNil))))) [5] (iVar 0))) aNil)).bind toB)) (sRet (EM.ret (.bl false))) sNil)) (sRet (EM.ret (.bl true))))
noncomputable def f_clause_at_most : EM D := fOf 4 6 b_clause_at_most
theorem o_clause_at_most (X : K.In h) (G : h.Ns mainGlobals mg) (c : SaysE fa fn ts er w K) : ∃ fd, FunD K "clause_at_most" "clause_at_most" (defArgs s6) (defBody s6) (defScope s6) [] [] (ga K "clause_at_most") fd ∧ FnOk Pg w K mg base CX0 4 (ga K "clause_at_most") fd ["first", "second", "lag", "length"] (sp0 K mg f_clause_at_most) := by
  obtain ⟨fd, F⟩ := c.def_ 6 (d := d6) rfl
  have F : FunD K "clause_at_most" "clause_at_most" (defArgs s6) (defBody s6) (defScope s6) [] [] (ga K "clause_at_most") fd := F
  have O : FnOk Pg w K mg base CX0 (3 + 1) (ga K "clause_at_most") fd ["first", "second", "lag", "length"] (sp0 K mg (fOf (List.length ["first", "second", "lag", "length"]) N_clause_at_most.length b_clause_at_most)) := fn0 (k := 3) (N := N_clause_at_most) (ps := ["first", "second", "lag", "length"]) (b := b_clause_at_most) F scclause_at_most (fun cdv A outer s H E hr => (dss_cons (ds_for PassesOwn.never rfl (di_seq (de_var 1 (pv 1))) (dg_nm (pg_name (i := 4) ndclause_at_most rfl (by first | exact Or.inl rfl | exact Or.inr rfl))) (dss_one (ds_if (dt_not (dt_val (de_blt (cr_any rfl) cd_any rfl (n_any X G c) bt_any (da_cons (de_fz (do_lc (own := [("lower", 5)]) (by rfl) ndclause_at_most (di_var 0 (pv 0)) (blkOk_by (N := N_clause_at_most) (sc := defScope s6) (own := [("lower", 5)]) (by decide +kernel)) (fun _ _ _ _ _ => (dg_nm (pg_name (i := 5) ndclause_at_most rfl (by first | exact Or.inl rfl | exact Or.inr rfl)))) (fun _ _ _ _ _ => dts_nil) (fun _ _ _ _ _ => (de_call0 (r_term_at_most X G c) (hr.mono (by decide)) rfl (g_term_at_most X G c) (kk_term_at_most c) (da_cons (de_var 5 (pv 5)) (da_cons (de_var 4 (pv 4)) (da_cons (de_var 2 (pv 2)) (da_cons (de_var 3 (pv 3)) da_nil)))))) (by decide))) da_nil)))) (dss_one (ds_ret de_bl)) dss_nil))) (dss_one (ds_ret de_bl))))
  exact ⟨fd, F, O⟩
theorem r_clause_at_most (X : K.In h) (G : h.Ns mainGlobals mg) (c : SaysE fa fn ts er w K) : FnR Pg w K mg base CX0 4 (ga K "clause_at_most") (sp0 K mg f_clause_at_most) := by
  obtain ⟨fd, F, O⟩ := o_clause_at_most (base := base) X G c
  exact FnR.all O (F.bindsN fun _ _ _ _ _ _ us hl => match us, hl with | [_, _, _, _], _ => rfl)
/-! ### clauses_at_most -/
abbrev N_clauses_at_most : List Str := ["first", "second", "lag", "length", "lower", "upper"]
theorem ndclauses_at_most : (N_clauses_at_most).Nodup := by decide
theorem scclauses_at_most : FnScope N_clauses_at_most ["first", "second", "lag", "length"] (defScope s7) := ⟨rfl, rfl, rfl, ndclauses_at_most, rfl, by decide +kernel, by decide +kernel⟩
noncomputable def b_clauses_at_most : EM Fl := (sSeq (sFor (.nm 4) (iSeq (eVar 0)) (sIf (tNot' ((eBlt gAny (aCons (eFz (oComp (.nm 5) (EM.ret true) (eCall0 f_clause_at_most (aCons (eVar 4) (aCons (eVar 5) (aCons (eVar 2) (aCons (eVar 3) aNil))))) [5] (iVar 1))) aNil)).bind toB)) (sRet (EM.ret (.bl false))) sNil)) (sRet (EM.ret (.bl true))))
noncomputable def f_clauses_at_most : EM D := fOf 4 6 b_clauses_at_most
theorem o_clauses_at_most (X : K.In h) (G : h.Ns mainGlobals mg) (c : SaysE fa fn ts er w K) : ∃ fd, FunD K "clauses_at_most" "clauses_at_most" (defArgs s7) (defBody s7) (defScope s7) [] [] (ga K "clauses_at_most") fd ∧ FnOk Pg w K mg base CX0 5 (ga K "clauses_at_most") fd ["first", "second", "lag", "length"] (sp0 K mg f_clauses_at_most) := by
  obtain ⟨fd, F⟩ := c.def_ 7 (d := d7) rfl
  have F : FunD K "clauses_at_most" "clauses_at_most" (defArgs s7) (defBody s7) (defScope s7) [] [] (ga K "clauses_at_most") fd := F
  have O : FnOk Pg w K mg base CX0 (4 + 1) (ga K "clauses_at_most") fd ["first", "second", "lag", "length"] (sp0 K mg (fOf (List.length ["first", "second", "lag", "length"]) N_clauses_at_most.length b_clauses_at_most)) := fn0 (k := 4) (N := N_clauses_at_most) (ps := ["first", "second", "lag", "length"]) (b := b_clauses_at_most) F scclauses_at_most (fun cdv A outer s H E hr => (dss_cons (ds_for PassesOwn.never rfl (di_seq (de_var 0 (pv 0))) (dg_nm (pg_name (i := 4) ndclauses_at_most rfl (by first | exact Or.inl rfl | exact Or.inr rfl))) (dss_one (ds_if (dt_not (dt_val (de_blt (cr_any rfl) cd_any rfl (n_any X G c) bt_any (da_cons (de_fz (do_lc (own := [("upper", 5)]) (by rfl) ndclauses_at_most (di_var 1 (pv 1)) (blkOk_by (N := N_clauses_at_most) (sc := defScope s7) (own := [("upper", 5)]) (by decide +kernel)) (fun _ _ _ _ _ => (dg_nm (pg_name (i := 5) ndclauses_at_most rfl (by first | exact Or.inl rfl | exact Or.inr rfl)))) (fun _ _ _ _ _ => dts_nil) (fun _ _ _ _ _ => (de_call0 (r_clause_at_most X G c) (hr.mono (by decide)) rfl (g_clause_at_most X G c) (kk_clause_at_most c) (da_cons (de_var 4 (pv 4)) (da_cons (de_var 5 (pv 5)) (da_cons (de_var 2 (pv 2)) (da_cons (de_var 3 (pv 3)) da_nil)))))) (by decide))) da_nil)))) (dss_one (ds_ret de_bl)) dss_nil))) (dss_one (ds_ret de_bl))))
  exact ⟨fd, F, O⟩
theorem r_clauses_at_most (X : K.In h) (G : h.Ns mainGlobals mg) (c : SaysE fa fn ts er w K) : FnR Pg w K mg base CX0 5 (ga K "clauses_at_most") (sp0 K mg f_clauses_at_most) := by
  obtain ⟨fd, F, O⟩ := o_clauses_at_most (base := base) X G c
  exact FnR.all O (F.bindsN fun _ _ _ _ _ _ us hl => match us, hl with | [_, _, _, _], _ => rfl)
/-! ### smallest -/
abbrev N_smallest : List Str := ["terms", "kept", "term", "other", "mark"]
theorem ndsmallest : (N_smallest).Nodup := by decide
theorem scsmallest : FnScope N_smallest ["terms"] (defScope s8) := ⟨rfl, rfl, rfl, ndsmallest, rfl, by decide +kernel, by decide +kernel⟩
noncomputable def b_smallest : EM Fl := (sSeq (sAsgO 1 (oLst aNil)) (sSeq (sFor (.nm 2) (iSeq (eVar 0)) (sIf (tNot' ((eBlt gAny (aCons (eFz (oComp (.nm 3) (EM.ret true) (eCall0 f_term_at_most (aCons (eVar 3) (aCons (eVar 2) (aCons (EM.ret .non) (aCons (EM.ret .non) aNil))))) [3] (iVar 1))) aNil)).bind toB)) (sSeq (sAsgO 1 (oComp (.nm 3) (tNot' ((eCall0 f_term_at_most (aCons (eVar 2) (aCons (eVar 3) (aCons (EM.ret .non) (aCons (EM.ret .non) aNil))))).bind toB)) (eVar 3) [3] (iVar 1))) (sApp 1 (aCons (eVar 2) aNil))) sNil)) (sRet (eBlt gTuple (aCons (eFz (oComp2 (.nm 4) (EM.ret true) (iVar 1) (.nm 2) (t2 gEq (eIxV 2 (EM.ret (.int 0))) (eVar 4)) (eVar 2) [4, 2] [2] (iSeq (EM.ret (.tup (t_MARKS.map .str)))))) aNil)))))
noncomputable def f_smallest : EM D := fOf 1 5 b_smallest
theorem o_smallest (X : K.In h) (G : h.Ns mainGlobals mg) (c : SaysE fa fn ts er w K) : ∃ fd, FunD K "smallest" "smallest" (defArgs s8) (defBody s8) (defScope s8) [] [] (ga K "smallest") fd ∧ FnOk Pg w K mg base CX0 4 (ga K "smallest") fd ["terms"] (sp0 K mg f_smallest) := by
  obtain ⟨fd, F⟩ := c.def_ 8 (d := d8) rfl
  have F : FunD K "smallest" "smallest" (defArgs s8) (defBody s8) (defScope s8) [] [] (ga K "smallest") fd := F
  have O : FnOk Pg w K mg base CX0 (3 + 1) (ga K "smallest") fd ["terms"] (sp0 K mg (fOf (List.length ["terms"]) N_smallest.length b_smallest)) := fn0 (k := 3) (N := N_smallest) (ps := ["terms"]) (b := b_smallest) F scsmallest (fun cdv A outer s H E hr => (dss_cons (ds_setO (i := 1) ndsmallest rfl (by first | exact Or.inl rfl | exact Or.inr rfl) (do_lst da_nil)) (dss_cons (ds_for PassesOwn.never rfl (di_seq (de_var 0 (pv 0))) (dg_nm (pg_name (i := 2) ndsmallest rfl (by first | exact Or.inl rfl | exact Or.inr rfl))) (dss_one (ds_if (dt_not (dt_val (de_blt (cr_any rfl) cd_any rfl (n_any X G c) bt_any (da_cons (de_fz (do_lc (own := [("other", 3)]) (by rfl) ndsmallest (di_var 1 (pv 1)) (blkOk_by (N := N_smallest) (sc := defScope s8) (own := [("other", 3)]) (by decide +kernel)) (fun _ _ _ _ _ => (dg_nm (pg_name (i := 3) ndsmallest rfl (by first | exact Or.inl rfl | exact Or.inr rfl)))) (fun _ _ _ _ _ => dts_nil) (fun _ _ _ _ _ => (de_call0 (r_term_at_most X G c) (hr.mono (by decide)) rfl (g_term_at_most X G c) (kk_term_at_most c) (da_cons (de_var 3 (pv 3)) (da_cons (de_var 2 (pv 2)) (da_cons de_non (da_cons de_non da_nil)))))) (by decide))) da_nil)))) (dss_cons (ds_setO (i := 1) ndsmallest rfl (by first | exact Or.inl rfl | exact Or.inr rfl) (do_lc (own := [("other", 3)]) (by rfl) ndsmallest (di_var 1 (pv 1)) (blkOk_by (N := N_smallest) (sc := defScope s8) (own := [("other", 3)]) (by decide +kernel)) (fun _ _ _ _ _ => (dg_nm (pg_name (i := 3) ndsmallest rfl (by first | exact Or.inl rfl | exact Or.inr rfl)))) (fun _ _ _ _ _ => (dts_one (dt_not (dt_val (de_call0 (r_term_at_most X G c) (hr.mono (by decide)) rfl (g_term_at_most X G c) (kk_term_at_most c) (da_cons (de_var 2 (pv 2)) (da_cons (de_var 3 (pv 3)) (da_cons de_non (da_cons de_non da_nil))))))))) (fun _ _ _ _ _ => (de_var 3 (pv 3))) (by decide))) (dss_one (ds_app 1 (pv 1) (da_cons (de_var 2 (pv 2)) da_nil)))) dss_nil))) (dss_one (ds_ret (de_ty call_tuple_of cd_tuple rfl (n_tuple X G c) bt_tuple (da_cons (de_fz (do_lc2 (own := [("mark", 4), ("term", 2)]) (vs1 := [2]) (by rfl) ndsmallest (di_seq (de_glob (con_tup (kt_MARKS X G c)) rfl)) (blkOk_by (N := N_smallest) (sc := defScope s8) (own := [("mark", 4), ("term", 2)]) (by decide +kernel)) (by decide) (fun _ _ _ _ _ => (dg_nm (pg_name (i := 4) ndsmallest rfl (by first | exact Or.inl rfl | exact Or.inr rfl)))) (fun _ _ _ _ _ => dts_nil) (fun _ _ _ _ _ => (di_var 1 (pv 1))) (fun _ _ _ _ _ => (dg_nm (pg_name (i := 2) ndsmallest rfl (by first | exact Or.inl rfl | exact Or.inr rfl)))) (fun _ _ _ _ _ => (dts_one (dt_cmp (op_eqA hr.units) od_eq (de_ixV 2 (pv 2) de_int) (de_var 4 (pv 4)) (nobehind _ (by decide) (by decide))))) (fun _ _ _ _ _ => (de_var 2 (pv 2))) (by decide) (by decide))) da_nil)))))))
  exact ⟨fd, F, O⟩
theorem r_smallest (X : K.In h) (G : h.Ns mainGlobals mg) (c : SaysE fa fn ts er w K) : FnR Pg w K mg base CX0 4 (ga K "smallest") (sp0 K mg f_smallest) := by
  obtain ⟨fd, F, O⟩ := o_smallest (base := base) X G c
  exact FnR.all O (F.bindsN fun _ _ _ _ _ _ us hl => match us, hl with | [_], _ => rfl)
/-! ### largest -/
abbrev N_largest : List Str := ["clauses", "kept", "clause", "other"]
theorem ndlargest : (N_largest).Nodup := by decide
theorem sclargest : FnScope N_largest ["clauses"] (defScope s9) := ⟨rfl, rfl, rfl, ndlargest, rfl, by decide +kernel, by decide +kernel⟩
noncomputable def b_largest : EM Fl := (sSeq (sAsgO 1 (oLst aNil)) (sSeq (sFor (.nm 2) (iSeq (eVar 0)) (sIf (tNot' ((eBlt gAny (aCons (eFz (oComp (.nm 3) (EM.ret true) (eCall0 f_clause_at_most (aCons (eVar 2) (aCons (eVar 3) (aCons (EM.ret .non) (aCons (EM.ret .non) aNil))))) [3] (iVar 1))) aNil)).bind toB)) (sSeq (sAsgO 1 (oComp (.nm 3) (tNot' ((eCall0 f_clause_at_most (aCons (eVar 3) (aCons (eVar 2) (aCons (EM.ret .non) (aCons (EM.ret .non) aNil))))).bind toB)) (eVar 3) [3] (iVar 1))) (sApp 1 (aCons (eVar 2) aNil))) sNil)) (sRet (eVar 1))))
noncomputable def f_largest : EM D := fOf 1 4 b_largest
theorem o_largest (X : K.In h) (G : h.Ns mainGlobals mg) (c : SaysE fa fn ts er w K) : ∃ fd, FunD K "largest" "largest" (defArgs s9) (defBody s9) (defScope s9) [] [] (ga K "largest") fd ∧ FnOk Pg w K mg base CX0 5 (ga K "largest") fd ["clauses"] (sp0 K mg f_largest) := by
  obtain ⟨fd, F⟩ := c.def_ 9 (d := d9) rfl
  have F : FunD K "largest" "largest" (defArgs s9) (defBody s9) (defScope s9) [] [] (ga K "largest") fd := F
  have O : FnOk Pg w K mg base CX0 (4 + 1) (ga K "largest") fd ["clauses"] (sp0 K mg (fOf (List.length ["clauses"]) N_largest.length b_largest)) := fn0 (k := 4) (N := N_largest) (ps := ["clauses"]) (b := b_largest) F sclargest (fun cdv A outer s H E hr => (dss_cons (ds_setO (i := 1) ndlargest rfl (by first | exact Or.inl rfl | exact Or.inr rfl) (do_lst da_nil)) (dss_cons (ds_for PassesOwn.never rfl (di_seq (de_var 0 (pv 0))) (dg_nm (pg_name (i := 2) ndlargest rfl (by first | exact Or.inl rfl | exact Or.inr rfl))) (dss_one (ds_if (dt_not (dt_val (de_blt (cr_any rfl) cd_any rfl (n_any X G c) bt_any (da_cons (de_fz (do_lc (own := [("other", 3)]) (by rfl) ndlargest (di_var 1 (pv 1)) (blkOk_by (N := N_largest) (sc := defScope s9) (own := [("other", 3)]) (by decide +kernel)) (fun _ _ _ _ _ => (dg_nm (pg_name (i := 3) ndlargest rfl (by first | exact Or.inl rfl | exact Or.inr rfl)))) (fun _ _ _ _ _ => dts_nil) (fun _ _ _ _ _ => (de_call0 (r_clause_at_most X G c) (hr.mono (by decide)) rfl (g_clause_at_most X G c) (kk_clause_at_most c) (da_cons (de_var 2 (pv 2)) (da_cons (de_var 3 (pv 3)) (da_cons de_non (da_cons de_non da_nil)))))) (by decide))) da_nil)))) (dss_cons (ds_setLc (own := [("other", 3)]) 1 (by rfl) ndlargest rfl rfl (sw_true rfl rfl rfl (by decide +kernel)) (di_var 1 (pv 1)) (blkOk_by (N := N_largest) (sc := defScope s9) (own := [("other", 3)]) (by decide +kernel)) (fun _ _ _ _ _ => (dg_nm (pg_name (i := 3) ndlargest rfl (by first | exact Or.inl rfl | exact Or.inr rfl)))) (fun _ _ _ _ _ => (dts_one (dt_not (dt_val (de_call0 (r_clause_at_most X G c) (hr.mono (by decide)) rfl (g_clause_at_most X G c) (kk_clause_at_most c) (da_cons (de_var 3 (pv 3)) (da_cons (de_var 2 (pv 2)) (da_cons de_non (da_cons de_non da_nil))))))))) (fun _ _ _ _ _ => (de_var 3 (pv 3))) (by decide)) (dss_one (ds_app 1 (pv 1) (da_cons (de_var 2 (pv 2)) da_nil)))) dss_nil))) (dss_one (ds_ret (de_var 1 (pv 1)))))))
  exact ⟨fd, F, O⟩
theorem r_largest (X : K.In h) (G : h.Ns mainGlobals mg) (c : SaysE fa fn ts er w K) : FnR Pg w K mg base CX0 5 (ga K "largest") (sp0 K mg f_largest) := by
  obtain ⟨fd, F, O⟩ := o_largest (base := base) X G c
  exact FnR.all O (F.bindsN fun _ _ _ _ _ _ us hl => match us, hl with | [_], _ => rfl)
/-! ### rank -/
abbrev N_rank : List Str := ["clause", "mark", "back"]
theorem ndrank : (N_rank).Nodup := by decide
theorem scrank : FnScope N_rank ["clause"] (defScope s10) := ⟨rfl, rfl, rfl, ndrank, rfl, by decide +kernel, by decide +kernel⟩
noncomputable def b_rank : EM Fl := (sRet (eBlt gTuple (aCons (eFz (oComp (.tp [1, 2]) (EM.ret true) (eTup (aCons (eIdx t_MARKS (eVar 1)) (aCons (eVar 2) aNil))) [1, 2] (iVar 0))) aNil)))
noncomputable def f_rank : EM D := fOf 1 3 b_rank
theorem o_rank (X : K.In h) (G : h.Ns mainGlobals mg) (c : SaysE fa fn ts er w K) : ∃ fd, FunD K "rank" "rank" (defArgs s10) (defBody s10) (defScope s10) [] [] (ga K "rank") fd ∧ FnOk Pg w K mg base CX0 1 (ga K "rank") fd ["clause"] (sp0 K mg f_rank) := by
  obtain ⟨fd, F⟩ := c.def_ 10 (d := d10) rfl
  have F : FunD K "rank" "rank" (defArgs s10) (defBody s10) (defScope s10) [] [] (ga K "rank") fd := F
  have O : FnOk Pg w K mg base CX0 (0 + 1) (ga K "rank") fd ["clause"] (sp0 K mg (fOf (List.length ["clause"]) N_rank.length b_rank)) := fn0 (k := 0) (N := N_rank) (ps := ["clause"]) (b := b_rank) F scrank (fun cdv A outer s H E hr => (dss_one (ds_ret (de_ty call_tuple_of cd_tuple rfl (n_tuple X G c) bt_tuple (da_cons (de_fz (do_lc (own := [("mark", 1), ("back", 2)]) (by rfl) ndrank (di_var 0 (pv 0)) (blkOk_by (N := N_rank) (sc := defScope s10) (own := [("mark", 1), ("back", 2)]) (by decide +kernel)) (fun _ _ _ _ _ => (pg_tup rfl (dgs_cons (pg_name (i := 1) ndrank rfl (by first | exact Or.inl rfl | exact Or.inr rfl)) (dgs_cons (pg_name (i := 2) ndrank rfl (by first | exact Or.inl rfl | exact Or.inr rfl)) dgs_nil)))) (fun _ _ _ _ _ => dts_nil) (fun _ _ _ _ _ => (de_tup (da_cons (de_idx (kt_MARKS X G c) rfl (de_var 1 (pv 1))) (da_cons (de_var 2 (pv 2)) da_nil)))) (by decide))) da_nil)))))
  exact ⟨fd, F, O⟩
theorem r_rank (X : K.In h) (G : h.Ns mainGlobals mg) (c : SaysE fa fn ts er w K) : FnR Pg w K mg base CX0 1 (ga K "rank") (sp0 K mg f_rank) := by
  obtain ⟨fd, F, O⟩ := o_rank (base := base) X G c
  exact FnR.all O (F.bindsN fun _ _ _ _ _ _ us hl => match us, hl with | [_], _ => rfl)
/-! ### in_order -/
abbrev N_in_order : List Str := ["clauses", "found", "clause", "at"]
theorem ndin_order : (N_in_order).Nodup := by decide
theorem scin_order : FnScope N_in_order ["clauses"] (defScope s11) := ⟨rfl, rfl, rfl, ndin_order, rfl, by decide +kernel, by decide +kernel⟩
noncomputable def b_in_order : EM Fl := (sSeq (sAsgO 1 (oLst aNil)) (sSeq (sFor (.nm 2) (iSeq (eVar 0)) (sSeq (sAsg 3 (EM.ret (.int 0))) (sSeq (whileD (tAnd' (t2 gLt (eVar 3) (eLenV 1)) (t2 gLtL (eCall0 f_rank (aCons (eIxV 1 (eVar 3)) aNil)) (eCall0 f_rank (aCons (eVar 2) aNil)))) (sAsg 3 (e2 gAdd (eVar 3) (EM.ret (.int 1)))) LIM) (sIns 1 (aCons (eVar 3) (aCons (eVar 2) aNil)))))) (sRet (eVar 1))))
noncomputable def f_in_order : EM D := fOf 1 4 b_in_order
theorem o_in_order (X : K.In h) (G : h.Ns mainGlobals mg) (c : SaysE fa fn ts er w K) : ∃ fd, FunD K "in_order" "in_order" (defArgs s11) (defBody s11) (defScope s11) [] [] (ga K "in_order") fd ∧ FnOk Pg w K mg base CX0 2 (ga K "in_order") fd ["clauses"] (sp0 K mg f_in_order) := by
  obtain ⟨fd, F⟩ := c.def_ 11 (d := d11) rfl
  have F : FunD K "in_order" "in_order" (defArgs s11) (defBody s11) (defScope s11) [] [] (ga K "in_order") fd := F
  have O : FnOk Pg w K mg base CX0 (1 + 1) (ga K "in_order") fd ["clauses"] (sp0 K mg (fOf (List.length ["clauses"]) N_in_order.length b_in_order)) := fn0 (k := 1) (N := N_in_order) (ps := ["clauses"]) (b := b_in_order) F scin_order (fun cdv A outer s H E hr => (dss_cons (ds_setO (i := 1) ndin_order rfl (by first | exact Or.inl rfl | exact Or.inr rfl) (do_lst da_nil)) (dss_cons (ds_for PassesOwn.never rfl (di_seq (de_var 0 (pv 0))) (dg_nm (pg_name (i := 2) ndin_order rfl (by first | exact Or.inl rfl | exact Or.inr rfl))) (dss_cons (ds_set (i := 3) ndin_order rfl (by first | exact Or.inl rfl | exact Or.inr rfl) de_int) (dss_cons (ds_while LIM PassesOwn.never (PW.pt (dw_and (dt_cmp op_lt (od_cmp _) (de_var 3 (pv 3)) (de_lenV 1 rfl (n_len X G c) bt_len (pv 1)) (nobehind _ (by decide) (by decide))) (dw_and1 (dt_cmp (op_ltD hr.units) od_ltD (de_call0 (r_rank X G c) (hr.mono (by decide)) rfl (g_rank X G c) (kk_rank c) (da_cons (de_ixV 1 (pv 1) (de_var 3 (pv 3))) da_nil)) (de_call0 (r_rank X G c) (hr.mono (by decide)) rfl (g_rank X G c) (kk_rank c) (da_cons (de_var 2 (pv 2)) da_nil)) (nobehind _ (by decide) (by decide)))))) (dss_one (ds_set (i := 3) ndin_order rfl (by first | exact Or.inl rfl | exact Or.inr rfl) (de_op op_addA od_add (de_var 3 (pv 3)) de_int)))) (dss_one (ds_ins 1 (pv 1) (da_cons (de_var 3 (pv 3)) (da_cons (de_var 2 (pv 2)) da_nil))))))) (dss_one (ds_ret (de_var 1 (pv 1)))))))
  exact ⟨fd, F, O⟩
theorem r_in_order (X : K.In h) (G : h.Ns mainGlobals mg) (c : SaysE fa fn ts er w K) : FnR Pg w K mg base CX0 2 (ga K "in_order") (sp0 K mg f_in_order) := by
  obtain ⟨fd, F, O⟩ := o_in_order (base := base) X G c
  exact FnR.all O (F.bindsN fun _ _ _ _ _ _ us hl => match us, hl with | [_], _ => rfl)
/-! ### normal -/
abbrev N_normal : List Str := ["clauses", "found", "clause", "mark", "back"]
theorem ndnormal : (N_normal).Nodup := by decide
theorem scnormal : FnScope N_normal ["clauses"] (defScope s12) := ⟨rfl, rfl, rfl, ndnormal, rfl, by decide +kernel, by decide +kernel⟩
noncomputable def b_normal : EM Fl := (sSeq (sAsgO 1 (oLst aNil)) (sSeq (sFor (.nm 2) (iSeq (eVar 0)) (sApp 1 (aCons (eCall0 f_smallest (aCons (eFz (oComp (.tp [3, 4]) (EM.ret true) (eTup (aCons (eVar 3) (aCons (eIf (t2 gEq (eVar 3) (EM.ret (.str "zero"))) (EM.ret (.int 0)) (eVar 4)) aNil))) [3, 4] (iVar 2))) aNil)) aNil))) (sRet (eCall0 f_in_order (aCons (eCall0 f_largest (aCons (eVar 1) aNil)) aNil)))))
noncomputable def f_normal : EM D := fOf 1 5 b_normal
theorem o_normal (X : K.In h) (G : h.Ns mainGlobals mg) (c : SaysE fa fn ts er w K) : ∃ fd, FunD K "normal" "normal" (defArgs s12) (defBody s12) (defScope s12) [] [] (ga K "normal") fd ∧ FnOk Pg w K mg base CX0 6 (ga K "normal") fd ["clauses"] (sp0 K mg f_normal) := by
  obtain ⟨fd, F⟩ := c.def_ 12 (d := d12) rfl
  have F : FunD K "normal" "normal" (defArgs s12) (defBody s12) (defScope s12) [] [] (ga K "normal") fd := F
  have O : FnOk Pg w K mg base CX0 (5 + 1) (ga K "normal") fd ["clauses"] (sp0 K mg (fOf (List.length ["clauses"]) N_normal.length b_normal)) := fn0 (k := 5) (N := N_normal) (ps := ["clauses"]) (b := b_normal) F scnormal (fun cdv A outer s H E hr => (dss_cons (ds_setO (i := 1) ndnormal rfl (by first | exact Or.inl rfl | exact Or.inr rfl) (do_lst da_nil)) (dss_cons (ds_for PassesOwn.never rfl (di_seq (de_var 0 (pv 0))) (dg_nm (pg_name (i := 2) ndnormal rfl (by first | exact Or.inl rfl | exact Or.inr rfl))) (dss_one (ds_app 1 (pv 1) (da_cons (de_call0 (r_smallest X G c) (hr.mono (by decide)) rfl (g_smallest X G c) (kk_smallest c) (da_cons (de_fz (do_lc (own := [("mark", 3), ("back", 4)]) (by rfl) ndnormal (di_var 2 (pv 2)) (blkOk_by (N := N_normal) (sc := defScope s12) (own := [("mark", 3), ("back", 4)]) (by decide +kernel)) (fun _ _ _ _ _ => (pg_tup rfl (dgs_cons (pg_name (i := 3) ndnormal rfl (by first | exact Or.inl rfl | exact Or.inr rfl)) (dgs_cons (pg_name (i := 4) ndnormal rfl (by first | exact Or.inl rfl | exact Or.inr rfl)) dgs_nil)))) (fun _ _ _ _ _ => dts_nil) (fun _ _ _ _ _ => (de_tup (da_cons (de_var 3 (pv 3)) (da_cons (de_if (dt_cmp (op_eqA hr.units) od_eq (de_var 3 (pv 3)) de_str (nobehind _ (by decide) (by decide))) de_int (de_var 4 (pv 4))) da_nil)))) (by decide))) da_nil)) da_nil)))) (dss_one (ds_ret (de_call0 (r_in_order X G c) (hr.mono (by decide)) rfl (g_in_order X G c) (kk_in_order c) (da_cons (de_call0 (r_largest X G c) (hr.mono (by decide)) rfl (g_largest X G c) (kk_largest c) (da_cons (de_var 1 (pv 1)) da_nil)) da_nil)))))))
  exact ⟨fd, F, O⟩
theorem r_normal (X : K.In h) (G : h.Ns mainGlobals mg) (c : SaysE fa fn ts er w K) : FnR Pg w K mg base CX0 6 (ga K "normal") (sp0 K mg f_normal) := by
  obtain ⟨fd, F, O⟩ := o_normal (base := base) X G c
  exact FnR.all O (F.bindsN fun _ _ _ _ _ _ us hl => match us, hl with | [_], _ => rfl)
/-! ### check_clauses -/
abbrev N_check_clauses : List Str := ["clauses", "clause", "mark", "back"]
theorem ndcheck_clauses : (N_check_clauses).Nodup := by decide
theorem sccheck_clauses : FnScope N_check_clauses ["clauses"] (defScope s14) := ⟨rfl, rfl, rfl, ndcheck_clauses, rfl, by decide +kernel, by decide +kernel⟩
noncomputable def b_check_clauses : EM Fl := (sSeq (sIf (t2 gEq (eLenV 0) (EM.ret (.int 0))) sBad sNil) (sFor (.nm 1) (iSeq (eVar 0)) (sSeq (sIf (t2 gEq (eLenV 1) (EM.ret (.int 0))) sBad sNil) (sFor (.tp [2, 3]) (iSeq (eVar 1)) (sSeq (sDrop (eCall0 f_check_mark (aCons (eVar 2) aNil))) (sIf (tOr' (t2 gLt (eVar 3) (EM.ret (.int 0))) (t2 gGt (eVar 3) (EM.ret (.int 99)))) sBad sNil))))))
noncomputable def f_check_clauses : EM D := fOf 1 4 b_check_clauses
theorem o_check_clauses (X : K.In h) (G : h.Ns mainGlobals mg) (c : SaysE fa fn ts er w K) : ∃ fd, FunD K "check_clauses" "check_clauses" (defArgs s14) (defBody s14) (defScope s14) [] [] (ga K "check_clauses") fd ∧ FnOk Pg w K mg base CX0 2 (ga K "check_clauses") fd ["clauses"] (sp0 K mg f_check_clauses) := by
  obtain ⟨fd, F⟩ := c.def_ 14 (d := d14) rfl
  have F : FunD K "check_clauses" "check_clauses" (defArgs s14) (defBody s14) (defScope s14) [] [] (ga K "check_clauses") fd := F
  have O : FnOk Pg w K mg base CX0 (1 + 1) (ga K "check_clauses") fd ["clauses"] (sp0 K mg (fOf (List.length ["clauses"]) N_check_clauses.length b_check_clauses)) := fn0 (k := 1) (N := N_check_clauses) (ps := ["clauses"]) (b := b_check_clauses) F sccheck_clauses (fun cdv A outer s H E hr => (dss_cons (ds_if (dt_cmp (op_eqA hr.units) od_eq (de_lenV 0 rfl (n_len X G c) bt_len (pv 0)) de_int (nobehind _ (by decide) (by decide))) dss_bad dss_nil) (dss_one (ds_for PassesOwn.never rfl (di_seq (de_var 0 (pv 0))) (dg_nm (pg_name (i := 1) ndcheck_clauses rfl (by first | exact Or.inl rfl | exact Or.inr rfl))) (dss_cons (ds_if (dt_cmp (op_eqA hr.units) od_eq (de_lenV 1 rfl (n_len X G c) bt_len (pv 1)) de_int (nobehind _ (by decide) (by decide))) dss_bad dss_nil) (dss_one (ds_for PassesOwn.never rfl (di_seq (de_var 1 (pv 1))) (pg_tup rfl (dgs_cons (pg_name (i := 2) ndcheck_clauses rfl (by first | exact Or.inl rfl | exact Or.inr rfl)) (dgs_cons (pg_name (i := 3) ndcheck_clauses rfl (by first | exact Or.inl rfl | exact Or.inr rfl)) dgs_nil))) (dss_cons (ds_drop (de_call0 (r_check_mark X G c) (hr.mono (by decide)) rfl (g_check_mark X G c) (kk_check_mark c) (da_cons (de_var 2 (pv 2)) da_nil))) (dss_one (ds_if (PW.pt (dw_or (dt_cmp op_lt (od_cmp _) (de_var 3 (pv 3)) de_int (nobehind _ (by decide) (by decide))) (dw_or1 (dt_cmp op_gt (od_cmp _) (de_var 3 (pv 3)) (de_glob (kc_BACK_LIMIT X G c) rfl) (nobehind _ (by decide) (by decide)))))) dss_bad dss_nil))))))))))
  exact ⟨fd, F, O⟩
theorem r_check_clauses (X : K.In h) (G : h.Ns mainGlobals mg) (c : SaysE fa fn ts er w K) : FnR Pg w K mg base CX0 2 (ga K "check_clauses") (sp0 K mg f_check_clauses) := by
  obtain ⟨fd, F, O⟩ := o_check_clauses (base := base) X G c
  exact FnR.all O (F.bindsN fun _ _ _ _ _ _ us hl => match us, hl with | [_], _ => rfl)
end Wk

set_option Elab.async false
set_option linter.all false
set_option maxRecDepth 100000
set_option maxHeartbeats 0
namespace Wk
open PySem PySem.Spec L2 He HW DL HdT
open PyProof.Rows hiding St

variable {w : World} {K : PySem.W.Frag} {h base : Heap} {mg : Str → Option Value}
/-! ### Rule.__init__ -/
abbrev N_Rule___init__ : List Str := ["self", "clauses", "terms", "clause", "term", "mark"]
theorem ndRule___init__ : (N_Rule___init__).Nodup := by decide
theorem scRule___init__ : FnScope N_Rule___init__ ["self", "clauses"] (defScope s15) := ⟨rfl, rfl, rfl, ndRule___init__, rfl, by decide +kernel, by decide +kernel⟩
noncomputable def b_Rule___init__ : EM Fl := (sSeq (sDrop (eCall0 f_check_clauses (aCons (eVar 1) aNil))) (sSeq (sPut 0 "Rule" "_clauses" (eCall0 f_normal (aCons (eVar 1) aNil))) (sSeq (sAsgO 2 (oComp2 (.nm 3) (EM.ret true) (iVar 3) (.nm 4) (EM.ret true) (eVar 4) [3, 4] [4] (iSeq (eFldV 0 "Rule" "_clauses")))) (sSeq (sPut 0 "Rule" "marks" (eBlt gTuple (aCons (eFz (oComp (.nm 5) (t2 gIn (eVar 5) (eFz (oComp (.nm 4) (EM.ret true) (eIxV 4 (EM.ret (.int 0))) [4] (iVar 2)))) (eVar 5) [5] (iSeq (EM.ret (.tup (t_MARKS.map .str)))))) aNil))) (sPut 0 "Rule" "back" (eBlt gMax (aCons (eFz (oComp (.nm 4) (EM.ret true) (eBlt gInt (aCons (eIxV 4 (EM.ret (.int 1))) aNil)) [4] (iVar 2))) aNil)))))))
noncomputable def f_Rule___init__ : EM D := fOf 2 6 b_Rule___init__
theorem o_Rule___init__ (X : K.In h) (G : h.Ns mainGlobals mg) (c : SaysE fa fn ts er w K) : ∃ fd, FunD K "__init__" "Rule.__init__" (defArgs s15) (defBody s15) (defScope s15) [] [] (ma K (ga K "Rule") "__init__") fd ∧ FnOk Pg w K mg base CX0 7 (ma K (ga K "Rule") "__init__") fd ["self", "clauses"] (sp0 K mg f_Rule___init__) := by
  obtain ⟨fd, F⟩ := c.def_ 15 (d := d15) rfl
  have F : FunD K "__init__" "Rule.__init__" (defArgs s15) (defBody s15) (defScope s15) [] [] (ma K (ga K "Rule") "__init__") fd := F
  have O : FnOk Pg w K mg base CX0 (6 + 1) (ma K (ga K "Rule") "__init__") fd ["self", "clauses"] (sp0 K mg (fOf (List.length ["self", "clauses"]) N_Rule___init__.length b_Rule___init__)) := fn0 (k := 6) (N := N_Rule___init__) (ps := ["self", "clauses"]) (b := b_Rule___init__) F scRule___init__ (fun cdv A outer s H E hr => (dss_cons (ds_drop (de_call0 (r_check_clauses X G c) (hr.mono (by decide)) rfl (g_check_clauses X G c) (kk_check_clauses c) (da_cons (de_var 1 (pv 1)) da_nil))) (dss_cons (ds_put 0 (kl_Rule X G c) (kf_Rule__clauses c) (pv 0) (de_call0 (r_normal X G c) (hr.mono (by decide)) rfl (g_normal X G c) (kk_normal c) (da_cons (de_var 1 (pv 1)) da_nil))) (dss_cons (ds_setO (i := 2) ndRule___init__ rfl (by first | exact Or.inl rfl | exact Or.inr rfl) (do_lc2 (own := [("clause", 3), ("term", 4)]) (vs1 := [4]) (by rfl) ndRule___init__ (di_seq (de_fldV 0 (kl_Rule X G c) (kf_Rule__clauses c) (pv 0))) (blkOk_by (N := N_Rule___init__) (sc := defScope s15) (own := [("clause", 3), ("term", 4)]) (by decide +kernel)) (by decide) (fun _ _ _ _ _ => (dg_nm (pg_name (i := 3) ndRule___init__ rfl (by first | exact Or.inl rfl | exact Or.inr rfl)))) (fun _ _ _ _ _ => dts_nil) (fun _ _ _ _ _ => (di_var 3 (pv 3))) (fun _ _ _ _ _ => (dg_nm (pg_name (i := 4) ndRule___init__ rfl (by first | exact Or.inl rfl | exact Or.inr rfl)))) (fun _ _ _ _ _ => dts_nil) (fun _ _ _ _ _ => (de_var 4 (pv 4))) (by decide) (by decide))) (dss_cons (ds_put 0 (kl_Rule X G c) (kf_Rule_marks c) (pv 0) (de_ty call_tuple_of cd_tuple rfl (n_tuple X G c) bt_tuple (da_cons (de_fz (do_lc (own := [("mark", 5)]) (by rfl) ndRule___init__ (di_seq (de_glob (con_tup (kt_MARKS X G c)) rfl)) (blkOk_by (N := N_Rule___init__) (sc := defScope s15) (own := [("mark", 5)]) (by decide +kernel)) (fun _ _ _ _ _ => (dg_nm (pg_name (i := 5) ndRule___init__ rfl (by first | exact Or.inl rfl | exact Or.inr rfl)))) (fun _ _ _ _ _ => (dts_one (dt_cmp op_in_seq od_in (de_var 5 (pv 5)) (de_fz (do_lc (own := [("term", 4)]) (by rfl) ndRule___init__ (di_var 2 (pv 2)) (blkOk_by (N := N_Rule___init__) (sc := relS _ (defScope s15)) (own := [("term", 4)]) (by decide +kernel)) (fun _ _ _ _ _ => (dg_nm (pg_name (i := 4) ndRule___init__ rfl (by first | exact Or.inl rfl | exact Or.inr rfl)))) (fun _ _ _ _ _ => dts_nil) (fun _ _ _ _ _ => (de_ixV 4 (pv 4) de_int)) (by decide))) rfl))) (fun _ _ _ _ _ => (de_var 5 (pv 5))) (by decide))) da_nil))) (dss_one (ds_put 0 (kl_Rule X G c) (kf_Rule_back c) (pv 0) (de_blt (cr_max rfl) cd_max rfl (n_max X G c) bt_max (da_cons (de_fz (do_lc (own := [("term", 4)]) (by rfl) ndRule___init__ (di_var 2 (pv 2)) (blkOk_by (N := N_Rule___init__) (sc := defScope s15) (own := [("term", 4)]) (by decide +kernel)) (fun _ _ _ _ _ => (dg_nm (pg_name (i := 4) ndRule___init__ rfl (by first | exact Or.inl rfl | exact Or.inr rfl)))) (fun _ _ _ _ _ => dts_nil) (fun _ _ _ _ _ => (de_ty call_int1 cd_int rfl (n_int X G c) bt_int (da_cons (de_ixV 4 (pv 4) de_int) da_nil))) (by decide))) da_nil)))))))))
  exact ⟨fd, F, O⟩
theorem r_Rule___init__ (X : K.In h) (G : h.Ns mainGlobals mg) (c : SaysE fa fn ts er w K) : FnR Pg w K mg base CX0 7 (ma K (ga K "Rule") "__init__") (sp0 K mg f_Rule___init__) := by
  obtain ⟨fd, F, O⟩ := o_Rule___init__ (base := base) X G c
  exact FnR.all O (F.bindsN fun _ _ _ _ _ _ us hl => match us, hl with | [_, _], _ => rfl)
/-! ### Rule.of -/
abbrev N_Rule_of : List Str := ["cls", "mark", "back"]
theorem ndRule_of : (N_Rule_of).Nodup := by decide
theorem scRule_of : FnScope N_Rule_of ["cls", "mark", "back"] (defScope s16) := ⟨rfl, rfl, rfl, ndRule_of, rfl, by decide +kernel, by decide +kernel⟩
noncomputable def b_Rule_of : EM Fl := (sRet (eMakeV 0 "Rule" f_Rule___init__ (aCons (eFz (oLst (aCons (eFz (oLst (aCons (eTup (aCons (eVar 1) (aCons (eVar 2) aNil))) aNil))) aNil))) aNil)))
noncomputable def f_Rule_of : EM D := fOf 3 3 b_Rule_of
theorem o_Rule_of (X : K.In h) (G : h.Ns mainGlobals mg) (c : SaysE fa fn ts er w K) : ∃ fd, FunD K "of" "Rule.of" (defArgs s16) (defBody s16) (defScope s16) [.int 0] [] (He5.wf K (ga K "Rule") "classmethod" "of") fd ∧ FnOk Pg w K mg base CX0 9 (He5.wf K (ga K "Rule") "classmethod" "of") fd ["cls", "mark", "back"] (sp0 K mg f_Rule_of) := by
  obtain ⟨fd, F⟩ := c.def_ 16 (d := d16) rfl
  have F : FunD K "of" "Rule.of" (defArgs s16) (defBody s16) (defScope s16) [.int 0] [] (He5.wf K (ga K "Rule") "classmethod" "of") fd := F
  have O : FnOk Pg w K mg base CX0 (8 + 1) (He5.wf K (ga K "Rule") "classmethod" "of") fd ["cls", "mark", "back"] (sp0 K mg (fOf (List.length ["cls", "mark", "back"]) N_Rule_of.length b_Rule_of)) := fn0 (k := 8) (N := N_Rule_of) (ps := ["cls", "mark", "back"]) (b := b_Rule_of) F scRule_of (fun cdv A outer s H E hr => (dss_one (ds_ret (de_makeV 0 (km_Rule c) (r_Rule___init__ X G c) (hr.mono (by decide)) (g_Rule X G c) (pv 0) (da_cons (de_fz (do_lst (da_cons (de_fz (do_lst (da_cons (de_tup (da_cons (de_var 1 (pv 1)) (da_cons (de_var 2 (pv 2)) da_nil))) da_nil))) da_nil))) da_nil)))))
  exact ⟨fd, F, O⟩
theorem r_Rule_of (X : K.In h) (G : h.Ns mainGlobals mg) (c : SaysE fa fn ts er w K) : FnR Pg w K mg base CX0 9 (He5.wf K (ga K "Rule") "classmethod" "of") (sp0 K mg f_Rule_of) := by
  obtain ⟨fd, F, O⟩ := o_Rule_of (base := base) X G c
  obtain ⟨ds, hv, hb⟩ := F.binds1 (ps := ["cls", "mark", "back"]) 3 1 (by simp) rfl (fun T kV doc pm an cdv ct us its h1 h2 => match us, h1, its, h2 with | [_, _, _], _, [_], _ => ⟨_, rfl, rfl⟩)
  cases hv
  exact FnR.all O hb
noncomputable def f_Rule_of_1 : EM D := fDfl [.int 0] f_Rule_of
theorem r_Rule_of_1 (X : K.In h) (G : h.Ns mainGlobals mg) (c : SaysE fa fn ts er w K) : FnR Pg w K mg base CX0 9 (He5.wf K (ga K "Rule") "classmethod" "of") (sp0 K mg f_Rule_of_1) := by
  obtain ⟨fd, F, O⟩ := o_Rule_of (base := base) X G c
  obtain ⟨ds, hv, hb⟩ := F.binds1 (ps := ["cls", "mark", "back"]) 2 0 (by simp) rfl (fun T kV doc pm an cdv ct us its h1 h2 => match us, h1, its, h2 with | [_, _], _, [_], _ => ⟨_, rfl, rfl⟩)
  exact FnR.dfl O hb hv (fun F => .cons (rep_int.mpr rfl) (.nil))
/-! ### Rule.clauses -/
abbrev N_Rule_clauses : List Str := ["self"]
theorem ndRule_clauses : (N_Rule_clauses).Nodup := by decide
theorem scRule_clauses : FnScope N_Rule_clauses ["self"] (defScope s17) := ⟨rfl, rfl, rfl, ndRule_clauses, rfl, by decide +kernel, by decide +kernel⟩
noncomputable def b_Rule_clauses : EM Fl := (sRet (eBlt gList (aCons (eFld "Rule" "_clauses" (eVar 0)) aNil)))
noncomputable def f_Rule_clauses : EM D := fOf 1 1 b_Rule_clauses
theorem o_Rule_clauses (X : K.In h) (G : h.Ns mainGlobals mg) (c : SaysE fa fn ts er w K) : ∃ fd, FunD K "clauses" "Rule.clauses" (defArgs s17) (defBody s17) (defScope s17) [] [] (He5.wf K (ga K "Rule") "property" "clauses") fd ∧ FnOk Pg w K mg base CX0 1 (He5.wf K (ga K "Rule") "property" "clauses") fd ["self"] (sp0 K mg f_Rule_clauses) := by
  obtain ⟨fd, F⟩ := c.def_ 17 (d := d17) rfl
  have F : FunD K "clauses" "Rule.clauses" (defArgs s17) (defBody s17) (defScope s17) [] [] (He5.wf K (ga K "Rule") "property" "clauses") fd := F
  have O : FnOk Pg w K mg base CX0 (0 + 1) (He5.wf K (ga K "Rule") "property" "clauses") fd ["self"] (sp0 K mg (fOf (List.length ["self"]) N_Rule_clauses.length b_Rule_clauses)) := fn0 (k := 0) (N := N_Rule_clauses) (ps := ["self"]) (b := b_Rule_clauses) F scRule_clauses (fun cdv A outer s H E hr => (dss_one (ds_ret (de_ty call_list_of cd_list rfl (n_list X G c) bt_list (da_cons (de_fld (kl_Rule X G c) (kf_Rule__clauses c) (de_var 0 (pv 0))) da_nil)))))
  exact ⟨fd, F, O⟩
theorem q_Rule_clauses (X : K.In h) (G : h.Ns mainGlobals mg) (c : SaysE fa fn ts er w K) : ∃ fd ps, FnOk Pg w K mg base CX0 1 (He5.wf K (ga K "Rule") "property" "clauses") fd ps (sp0 K mg f_Rule_clauses) ∧ Binds K fd ps [] := by
  obtain ⟨fd, F, O⟩ := o_Rule_clauses (base := base) X G c
  exact ⟨fd, _, O, F.bindsN fun _ _ _ _ _ _ us hl => match us, hl with | [_], _ => rfl⟩
theorem r_Rule_clauses (X : K.In h) (G : h.Ns mainGlobals mg) (c : SaysE fa fn ts er w K) : FnR Pg w K mg base CX0 1 (He5.wf K (ga K "Rule") "property" "clauses") (sp0 K mg f_Rule_clauses) := by
  obtain ⟨fd, F, O⟩ := o_Rule_clauses (base := base) X G c
  exact FnR.all O (F.bindsN fun _ _ _ _ _ _ us hl => match us, hl with | [_], _ => rfl)
/-! ### at_most -/
abbrev N_at_most : List Str := ["first", "second", "world"]
theorem ndat_most : (N_at_most).Nodup := by decide
theorem scat_most : FnScope N_at_most ["first", "second", "world"] (defScope s13) := ⟨rfl, rfl, rfl, ndat_most, rfl, by decide +kernel, by decide +kernel⟩
noncomputable def b_at_most : EM Fl := (sRet (eCall0 f_clauses_at_most (aCons (eProp "Rule" f_Rule_clauses (eVar 0)) (aCons (eProp "Rule" f_Rule_clauses (eVar 1)) (aCons (eFld "World" "lag" (eVar 2)) (aCons (eFld "World" "length" (eVar 2)) aNil))))))
noncomputable def f_at_most : EM D := fOf 3 3 b_at_most
theorem o_at_most (X : K.In h) (G : h.Ns mainGlobals mg) (c : SaysE fa fn ts er w K) : ∃ fd, FunD K "at_most" "at_most" (defArgs s13) (defBody s13) (defScope s13) [] [] (ga K "at_most") fd ∧ FnOk Pg w K mg base CX0 6 (ga K "at_most") fd ["first", "second", "world"] (sp0 K mg f_at_most) := by
  obtain ⟨fd, F⟩ := c.def_ 13 (d := d13) rfl
  have F : FunD K "at_most" "at_most" (defArgs s13) (defBody s13) (defScope s13) [] [] (ga K "at_most") fd := F
  have O : FnOk Pg w K mg base CX0 (5 + 1) (ga K "at_most") fd ["first", "second", "world"] (sp0 K mg (fOf (List.length ["first", "second", "world"]) N_at_most.length b_at_most)) := fn0 (k := 5) (N := N_at_most) (ps := ["first", "second", "world"]) (b := b_at_most) F scat_most (fun cdv A outer s H E hr => (dss_one (ds_ret (de_call0 (r_clauses_at_most X G c) (hr.mono (by decide)) rfl (g_clauses_at_most X G c) (kk_clauses_at_most c) (da_cons (de_propE (kl_Rule X G c) (kp_Rule_clauses c) (q_Rule_clauses X G c) (hr.mono (by decide)) (de_var 0 (pv 0))) (da_cons (de_propE (kl_Rule X G c) (kp_Rule_clauses c) (q_Rule_clauses X G c) (hr.mono (by decide)) (de_var 1 (pv 1))) (da_cons (de_fld (kl_World X G c) (kf_World_lag c) (de_var 2 (pv 2))) (da_cons (de_fld (kl_World X G c) (kf_World_length c) (de_var 2 (pv 2))) da_nil))))))))
  exact ⟨fd, F, O⟩
theorem r_at_most (X : K.In h) (G : h.Ns mainGlobals mg) (c : SaysE fa fn ts er w K) : FnR Pg w K mg base CX0 6 (ga K "at_most") (sp0 K mg f_at_most) := by
  obtain ⟨fd, F, O⟩ := o_at_most (base := base) X G c
  exact FnR.all O (F.bindsN fun _ _ _ _ _ _ us hl => match us, hl with | [_, _, _], _ => rfl)
/-! ### is_whole -/
abbrev N_is_whole : List Str := ["value"]
theorem ndis_whole : (N_is_whole).Nodup := by decide
theorem scis_whole : FnScope N_is_whole ["value"] (defScope s18) := ⟨rfl, rfl, rfl, ndis_whole, rfl, by decide +kernel, by decide +kernel⟩
noncomputable def b_is_whole : EM Fl := (sRet (eAnd ((eIsi "int" (eVar 0)).bind fun b => EM.ret (.bl b)) (eNot ((eIsi "bool" (eVar 0)).bind fun b => EM.ret (.bl b)))))
noncomputable def f_is_whole : EM D := fOf 1 1 b_is_whole
theorem o_is_whole (X : K.In h) (G : h.Ns mainGlobals mg) (c : SaysE fa fn ts er w K) : ∃ fd, FunD K "is_whole" "is_whole" (defArgs s18) (defBody s18) (defScope s18) [] [] (ga K "is_whole") fd ∧ FnOk Pg w K mg base CX0 1 (ga K "is_whole") fd ["value"] (sp0 K mg f_is_whole) := by
  obtain ⟨fd, F⟩ := c.def_ 18 (d := d18) rfl
  have F : FunD K "is_whole" "is_whole" (defArgs s18) (defBody s18) (defScope s18) [] [] (ga K "is_whole") fd := F
  have O : FnOk Pg w K mg base CX0 (0 + 1) (ga K "is_whole") fd ["value"] (sp0 K mg (fOf (List.length ["value"]) N_is_whole.length b_is_whole)) := fn0 (k := 0) (N := N_is_whole) (ps := ["value"]) (b := b_is_whole) F scis_whole (fun cdv A outer s H E hr => (dss_one (ds_ret (de_and (de_isi rfl (n_isinstance X G c) rfl (n_int X G c) bt_int (de_var 0 (pv 0)) bt_isinstance) (de_one (de_not (de_isi rfl (n_isinstance X G c) rfl (n_bool X G c) bt_bool (de_var 0 (pv 0)) bt_isinstance)))))))
  exact ⟨fd, F, O⟩
theorem r_is_whole (X : K.In h) (G : h.Ns mainGlobals mg) (c : SaysE fa fn ts er w K) : FnR Pg w K mg base CX0 1 (ga K "is_whole") (sp0 K mg f_is_whole) := by
  obtain ⟨fd, F, O⟩ := o_is_whole (base := base) X G c
  exact FnR.all O (F.bindsN fun _ _ _ _ _ _ us hl => match us, hl with | [_], _ => rfl)
/-! ### is_bound -/
abbrev N_is_bound : List Str := ["value"]
theorem ndis_bound : (N_is_bound).Nodup := by decide
theorem scis_bound : FnScope N_is_bound ["value"] (defScope s19) := ⟨rfl, rfl, rfl, ndis_bound, rfl, by decide +kernel, by decide +kernel⟩
noncomputable def b_is_bound : EM Fl := (sSeq (sIf (tAnd' ((eVar 0).bind fun d => EM.ret (!isN d)) (tNot' ((eCall0 f_is_whole (aCons (eVar 0) aNil)).bind toB))) (sRet (EM.ret (.bl false))) sNil) (sRet (eOr ((eVar 0).bind fun d => EM.ret (.bl (isN d))) (eChain gLe gLe (EM.ret (.int 0)) (eVar 0) (EM.ret (.int 49))))))
noncomputable def f_is_bound : EM D := fOf 1 1 b_is_bound
theorem o_is_bound (X : K.In h) (G : h.Ns mainGlobals mg) (c : SaysE fa fn ts er w K) : ∃ fd, FunD K "is_bound" "is_bound" (defArgs s19) (defBody s19) (defScope s19) [] [] (ga K "is_bound") fd ∧ FnOk Pg w K mg base CX0 2 (ga K "is_bound") fd ["value"] (sp0 K mg f_is_bound) := by
  obtain ⟨fd, F⟩ := c.def_ 19 (d := d19) rfl
  have F : FunD K "is_bound" "is_bound" (defArgs s19) (defBody s19) (defScope s19) [] [] (ga K "is_bound") fd := F
  have O : FnOk Pg w K mg base CX0 (1 + 1) (ga K "is_bound") fd ["value"] (sp0 K mg (fOf (List.length ["value"]) N_is_bound.length b_is_bound)) := fn0 (k := 1) (N := N_is_bound) (ps := ["value"]) (b := b_is_bound) F scis_bound (fun cdv A outer s H E hr => (dss_cons (ds_if (PW.pt (dw_and (dt_notN (de_var 0 (pv 0))) (dw_and1 (dt_not (dt_val (de_call0 (r_is_whole X G c) (hr.mono (by decide)) rfl (g_is_whole X G c) (kk_is_whole c) (da_cons (de_var 0 (pv 0)) da_nil))))))) (dss_one (ds_ret de_bl)) dss_nil) (dss_one (ds_ret (de_or (de_isN (de_var 0 (pv 0))) (de_one (de_chain op_le (od_cmp _) op_le (od_cmp _) de_int (de_var 0 (pv 0)) (de_glob (kc_BOUND_LIMIT X G c) rfl))))))))
  exact ⟨fd, F, O⟩
theorem r_is_bound (X : K.In h) (G : h.Ns mainGlobals mg) (c : SaysE fa fn ts er w K) : FnR Pg w K mg base CX0 2 (ga K "is_bound") (sp0 K mg f_is_bound) := by
  obtain ⟨fd, F, O⟩ := o_is_bound (base := base) X G c
  exact FnR.all O (F.bindsN fun _ _ _ _ _ _ us hl => match us, hl with | [_], _ => rfl)
/-! ### bound_at_most -/
abbrev N_bound_at_most : List Str := ["first", "second"]
theorem ndbound_at_most : (N_bound_at_most).Nodup := by decide
theorem scbound_at_most : FnScope N_bound_at_most ["first", "second"] (defScope s20) := ⟨rfl, rfl, rfl, ndbound_at_most, rfl, by decide +kernel, by decide +kernel⟩
noncomputable def b_bound_at_most : EM Fl := (sRet (eOr ((eVar 1).bind fun d => EM.ret (.bl (isN d))) (eAnd ((eVar 0).bind fun d => EM.ret (.bl (!isN d))) (e2 (gB gLe) (eVar 0) (eVar 1)))))
noncomputable def f_bound_at_most : EM D := fOf 2 2 b_bound_at_most
theorem o_bound_at_most (X : K.In h) (G : h.Ns mainGlobals mg) (c : SaysE fa fn ts er w K) : ∃ fd, FunD K "bound_at_most" "bound_at_most" (defArgs s20) (defBody s20) (defScope s20) [] [] (ga K "bound_at_most") fd ∧ FnOk Pg w K mg base CX0 1 (ga K "bound_at_most") fd ["first", "second"] (sp0 K mg f_bound_at_most) := by
  obtain ⟨fd, F⟩ := c.def_ 20 (d := d20) rfl
  have F : FunD K "bound_at_most" "bound_at_most" (defArgs s20) (defBody s20) (defScope s20) [] [] (ga K "bound_at_most") fd := F
  have O : FnOk Pg w K mg base CX0 (0 + 1) (ga K "bound_at_most") fd ["first", "second"] (sp0 K mg (fOf (List.length ["first", "second"]) N_bound_at_most.length b_bound_at_most)) := fn0 (k := 0) (N := N_bound_at_most) (ps := ["first", "second"]) (b := b_bound_at_most) F scbound_at_most (fun cdv A outer s H E hr => (dss_one (ds_ret (de_or (de_isN (de_var 1 (pv 1))) (de_one (de_and (de_notN (de_var 0 (pv 0))) (de_one (de_cmp op_le (od_cmp _) (de_var 0 (pv 0)) (de_var 1 (pv 1)) (nobehind _ (by decide) (by decide))))))))))
  exact ⟨fd, F, O⟩
theorem r_bound_at_most (X : K.In h) (G : h.Ns mainGlobals mg) (c : SaysE fa fn ts er w K) : FnR Pg w K mg base CX0 1 (ga K "bound_at_most") (sp0 K mg f_bound_at_most) := by
  obtain ⟨fd, F, O⟩ := o_bound_at_most (base := base) X G c
  exact FnR.all O (F.bindsN fun _ _ _ _ _ _ us hl => match us, hl with | [_, _], _ => rfl)
/-! ### World.__init__ -/
abbrev N_World___init__ : List Str := ["self", "lag", "length"]
theorem ndWorld___init__ : (N_World___init__).Nodup := by decide
theorem scWorld___init__ : FnScope N_World___init__ ["self", "lag", "length"] (defScope s21) := ⟨rfl, rfl, rfl, ndWorld___init__, rfl, by decide +kernel, by decide +kernel⟩
noncomputable def b_World___init__ : EM Fl := (sSeq (sIf (tOr' (tNot' ((eCall0 f_is_bound (aCons (eVar 1) aNil)).bind toB)) (tNot' ((eCall0 f_is_bound (aCons (eVar 2) aNil)).bind toB))) sBad sNil) (sSeq (sPut 0 "World" "lag" (eVar 1)) (sPut 0 "World" "length" (eVar 2))))
noncomputable def f_World___init__ : EM D := fOf 3 3 b_World___init__
theorem o_World___init__ (X : K.In h) (G : h.Ns mainGlobals mg) (c : SaysE fa fn ts er w K) : ∃ fd, FunD K "__init__" "World.__init__" (defArgs s21) (defBody s21) (defScope s21) [.non, .non] [] (ma K (ga K "World") "__init__") fd ∧ FnOk Pg w K mg base CX0 3 (ma K (ga K "World") "__init__") fd ["self", "lag", "length"] (sp0 K mg f_World___init__) := by
  obtain ⟨fd, F⟩ := c.def_ 21 (d := d21) rfl
  have F : FunD K "__init__" "World.__init__" (defArgs s21) (defBody s21) (defScope s21) [.non, .non] [] (ma K (ga K "World") "__init__") fd := F
  have O : FnOk Pg w K mg base CX0 (2 + 1) (ma K (ga K "World") "__init__") fd ["self", "lag", "length"] (sp0 K mg (fOf (List.length ["self", "lag", "length"]) N_World___init__.length b_World___init__)) := fn0 (k := 2) (N := N_World___init__) (ps := ["self", "lag", "length"]) (b := b_World___init__) F scWorld___init__ (fun cdv A outer s H E hr => (dss_cons (ds_if (PW.pt (dw_or (dt_not (dt_val (de_call0 (r_is_bound X G c) (hr.mono (by decide)) rfl (g_is_bound X G c) (kk_is_bound c) (da_cons (de_var 1 (pv 1)) da_nil)))) (dw_or1 (dt_not (dt_val (de_call0 (r_is_bound X G c) (hr.mono (by decide)) rfl (g_is_bound X G c) (kk_is_bound c) (da_cons (de_var 2 (pv 2)) da_nil))))))) dss_bad dss_nil) (dss_cons (ds_put 0 (kl_World X G c) (kf_World_lag c) (pv 0) (de_var 1 (pv 1))) (dss_one (ds_put 0 (kl_World X G c) (kf_World_length c) (pv 0) (de_var 2 (pv 2)))))))
  exact ⟨fd, F, O⟩
theorem r_World___init__ (X : K.In h) (G : h.Ns mainGlobals mg) (c : SaysE fa fn ts er w K) : FnR Pg w K mg base CX0 3 (ma K (ga K "World") "__init__") (sp0 K mg f_World___init__) := by
  obtain ⟨fd, F, O⟩ := o_World___init__ (base := base) X G c
  obtain ⟨ds, hv, hb⟩ := F.binds1 (ps := ["self", "lag", "length"]) 3 2 (by simp) rfl (fun T kV doc pm an cdv ct us its h1 h2 => match us, h1, its, h2 with | [_, _, _], _, [_, _], _ => ⟨_, rfl, rfl⟩)
  cases hv
  exact FnR.all O hb
noncomputable def f_World___init___1 : EM D := fDfl [.non] f_World___init__
theorem r_World___init___1 (X : K.In h) (G : h.Ns mainGlobals mg) (c : SaysE fa fn ts er w K) : FnR Pg w K mg base CX0 3 (ma K (ga K "World") "__init__") (sp0 K mg f_World___init___1) := by
  obtain ⟨fd, F, O⟩ := o_World___init__ (base := base) X G c
  obtain ⟨ds, hv, hb⟩ := F.binds1 (ps := ["self", "lag", "length"]) 2 1 (by simp) rfl (fun T kV doc pm an cdv ct us its h1 h2 => match us, h1, its, h2 with | [_, _], _, [_, _], _ => ⟨_, rfl, rfl⟩)
  exact FnR.dfl O hb hv (fun F => .cons (rep_non.mpr rfl) (.nil))
noncomputable def f_World___init___0 : EM D := fDfl [.non, .non] f_World___init__
theorem r_World___init___0 (X : K.In h) (G : h.Ns mainGlobals mg) (c : SaysE fa fn ts er w K) : FnR Pg w K mg base CX0 3 (ma K (ga K "World") "__init__") (sp0 K mg f_World___init___0) := by
  obtain ⟨fd, F, O⟩ := o_World___init__ (base := base) X G c
  obtain ⟨ds, hv, hb⟩ := F.binds1 (ps := ["self", "lag", "length"]) 1 0 (by simp) rfl (fun T kV doc pm an cdv ct us its h1 h2 => match us, h1, its, h2 with | [_], _, [_, _], _ => ⟨_, rfl, rfl⟩)
  exact FnR.dfl O hb hv (fun F => .cons (rep_non.mpr rfl) (.cons (rep_non.mpr rfl) (.nil)))
/-! ### World.wide -/
abbrev N_World_wide : List Str := []
theorem ndWorld_wide : (N_World_wide).Nodup := by decide
theorem scWorld_wide : FnScope N_World_wide [] (defScope s22) := ⟨rfl, rfl, rfl, ndWorld_wide, rfl, by decide +kernel, by decide +kernel⟩
noncomputable def b_World_wide : EM Fl := (sRet (eMake "World" f_World___init___0 aNil))
noncomputable def f_World_wide : EM D := fOf 0 0 b_World_wide
theorem o_World_wide (X : K.In h) (G : h.Ns mainGlobals mg) (c : SaysE fa fn ts er w K) : ∃ fd, FunD K "wide" "World.wide" (defArgs s22) (defBody s22) (defScope s22) [] [] (He5.wf K (ga K "World") "staticmethod" "wide") fd ∧ FnOk Pg w K mg base CX0 5 (He5.wf K (ga K "World") "staticmethod" "wide") fd [] (sp0 K mg f_World_wide) := by
  obtain ⟨fd, F⟩ := c.def_ 22 (d := d22) rfl
  have F : FunD K "wide" "World.wide" (defArgs s22) (defBody s22) (defScope s22) [] [] (He5.wf K (ga K "World") "staticmethod" "wide") fd := F
  have O : FnOk Pg w K mg base CX0 (4 + 1) (He5.wf K (ga K "World") "staticmethod" "wide") fd [] (sp0 K mg (fOf (List.length []) N_World_wide.length b_World_wide)) := fn0 (k := 4) (N := N_World_wide) (ps := []) (b := b_World_wide) F scWorld_wide (fun cdv A outer s H E hr => (dss_one (ds_ret (de_makeN0 (km_World c) (r_World___init___0 X G c) (hr.mono (by decide)) rfl (g_World X G c)))))
  exact ⟨fd, F, O⟩
theorem r_World_wide (X : K.In h) (G : h.Ns mainGlobals mg) (c : SaysE fa fn ts er w K) : FnR Pg w K mg base CX0 5 (He5.wf K (ga K "World") "staticmethod" "wide") (sp0 K mg f_World_wide) := by
  obtain ⟨fd, F, O⟩ := o_World_wide (base := base) X G c
  exact FnR.all O (F.bindsN fun _ _ _ _ _ _ us hl => match us, hl with | [], _ => rfl)
/-! ### World.__le__ -/
abbrev N_World___le__ : List Str := ["self", "other"]
theorem ndWorld___le__ : (N_World___le__).Nodup := by decide
theorem scWorld___le__ : FnScope N_World___le__ ["self", "other"] (defScope s23) := ⟨rfl, rfl, rfl, ndWorld___le__, rfl, by decide +kernel, by decide +kernel⟩
noncomputable def b_World___le__ : EM Fl := (sRet (eAnd (eCall0 f_bound_at_most (aCons (eFld "World" "lag" (eVar 0)) (aCons (eFld "World" "lag" (eVar 1)) aNil))) (eCall0 f_bound_at_most (aCons (eFld "World" "length" (eVar 0)) (aCons (eFld "World" "length" (eVar 1)) aNil)))))
noncomputable def f_World___le__ : EM D := fOf 2 2 b_World___le__
theorem o_World___le__ (X : K.In h) (G : h.Ns mainGlobals mg) (c : SaysE fa fn ts er w K) : ∃ fd, FunD K "__le__" "World.__le__" (defArgs s23) (defBody s23) (defScope s23) [] [] (ma K (ga K "World") "__le__") fd ∧ FnOk Pg w K mg base CX0 2 (ma K (ga K "World") "__le__") fd ["self", "other"] (sp0 K mg f_World___le__) := by
  obtain ⟨fd, F⟩ := c.def_ 23 (d := d23) rfl
  have F : FunD K "__le__" "World.__le__" (defArgs s23) (defBody s23) (defScope s23) [] [] (ma K (ga K "World") "__le__") fd := F
  have O : FnOk Pg w K mg base CX0 (1 + 1) (ma K (ga K "World") "__le__") fd ["self", "other"] (sp0 K mg (fOf (List.length ["self", "other"]) N_World___le__.length b_World___le__)) := fn0 (k := 1) (N := N_World___le__) (ps := ["self", "other"]) (b := b_World___le__) F scWorld___le__ (fun cdv A outer s H E hr => (dss_one (ds_ret (de_and (de_call0 (r_bound_at_most X G c) (hr.mono (by decide)) rfl (g_bound_at_most X G c) (kk_bound_at_most c) (da_cons (de_fld (kl_World X G c) (kf_World_lag c) (de_var 0 (pv 0))) (da_cons (de_fld (kl_World X G c) (kf_World_lag c) (de_var 1 (pv 1))) da_nil))) (de_one (de_call0 (r_bound_at_most X G c) (hr.mono (by decide)) rfl (g_bound_at_most X G c) (kk_bound_at_most c) (da_cons (de_fld (kl_World X G c) (kf_World_length c) (de_var 0 (pv 0))) (da_cons (de_fld (kl_World X G c) (kf_World_length c) (de_var 1 (pv 1))) da_nil))))))))
  exact ⟨fd, F, O⟩
theorem r_World___le__ (X : K.In h) (G : h.Ns mainGlobals mg) (c : SaysE fa fn ts er w K) : FnR Pg w K mg base CX0 2 (ma K (ga K "World") "__le__") (sp0 K mg f_World___le__) := by
  obtain ⟨fd, F, O⟩ := o_World___le__ (base := base) X G c
  exact FnR.all O (F.bindsN fun _ _ _ _ _ _ us hl => match us, hl with | [_, _], _ => rfl)
/-! ### safe -/
abbrev N_safe : List Str := ["rule", "world"]
theorem ndsafe : (N_safe).Nodup := by decide
theorem scsafe : FnScope N_safe ["rule", "world"] (defScope s24) := ⟨rfl, rfl, rfl, ndsafe, rfl, by decide +kernel, by decide +kernel⟩
noncomputable def b_safe : EM Fl := (sSeq (sDrop (eCall0 f_check_allowed (aCons (eFld "Rule" "marks" (eVar 0)) (aCons (EM.ret (.tup (t_KEEP_MARKS.map .str))) aNil)))) (sRet (eCall0 f_at_most (aCons (eVar 0) (aCons (eCm "Rule" f_Rule_of_1 (EM.ret (.cls "Rule")) (aCons (EM.ret (.str "owed")) aNil)) (aCons (eVar 1) aNil))))))
noncomputable def f_safe : EM D := fOf 2 2 b_safe
theorem o_safe (X : K.In h) (G : h.Ns mainGlobals mg) (c : SaysE fa fn ts er w K) : ∃ fd, FunD K "safe" "safe" (defArgs s24) (defBody s24) (defScope s24) [] [] (ga K "safe") fd ∧ FnOk Pg w K mg base CX0 10 (ga K "safe") fd ["rule", "world"] (sp0 K mg f_safe) := by
  obtain ⟨fd, F⟩ := c.def_ 24 (d := d24) rfl
  have F : FunD K "safe" "safe" (defArgs s24) (defBody s24) (defScope s24) [] [] (ga K "safe") fd := F
  have O : FnOk Pg w K mg base CX0 (9 + 1) (ga K "safe") fd ["rule", "world"] (sp0 K mg (fOf (List.length ["rule", "world"]) N_safe.length b_safe)) := fn0 (k := 9) (N := N_safe) (ps := ["rule", "world"]) (b := b_safe) F scsafe (fun cdv A outer s H E hr => (dss_cons (ds_drop (de_call0 (r_check_allowed X G c) (hr.mono (by decide)) rfl (g_check_allowed X G c) (kk_check_allowed c) (da_cons (de_fld (kl_Rule X G c) (kf_Rule_marks c) (de_var 0 (pv 0))) (da_cons (de_glob (con_tup (kt_KEEP_MARKS X G c)) rfl) da_nil)))) (dss_one (ds_ret (de_call0 (r_at_most X G c) (hr.mono (by decide)) rfl (g_at_most X G c) (kk_at_most c) (da_cons (de_var 0 (pv 0)) (da_cons (de_cmeth (g_Rule X G c) (kr_Rule c) (kw_Rule_of c) (r_Rule_of_1 X G c) (hr.mono (by decide)) (de_glob (con_cls (g_Rule X G c)) rfl) (da_cons de_str da_nil)) (da_cons (de_var 1 (pv 1)) da_nil))))))))
  exact ⟨fd, F, O⟩
theorem r_safe (X : K.In h) (G : h.Ns mainGlobals mg) (c : SaysE fa fn ts er w K) : FnR Pg w K mg base CX0 10 (ga K "safe") (sp0 K mg f_safe) := by
  obtain ⟨fd, F, O⟩ := o_safe (base := base) X G c
  exact FnR.all O (F.bindsN fun _ _ _ _ _ _ us hl => match us, hl with | [_, _], _ => rfl)
/-! ### clause_length -/
abbrev N_clause_length : List Str := ["clause", "lag", "best", "mark", "back"]
theorem ndclause_length : (N_clause_length).Nodup := by decide
theorem scclause_length : FnScope N_clause_length ["clause", "lag"] (defScope s25) := ⟨rfl, rfl, rfl, ndclause_length, rfl, by decide +kernel, by decide +kernel⟩
noncomputable def b_clause_length : EM Fl := (sSeq (sAsg 2 ((EM.ret (.int 1)).bind fun d => EM.opt (gNeg d))) (sSeq (sFor (.tp [3, 4]) (iSeq (eVar 0)) (sSeq (sIf (tAnd' (t2 gNe (eVar 3) (EM.ret (.str "done"))) (t2 gNe (eVar 3) (EM.ret (.str "end")))) (sRet (EM.ret .non)) sNil) (sSeq (sIf (tAnd' (t2 gEq (eVar 3) (EM.ret (.str "done"))) (t2 gGt (eVar 4) (eVar 2))) (sAsg 2 (eVar 4)) sNil) (sIf (tAnd' (t2 gEq (eVar 3) (EM.ret (.str "end"))) (tAnd' ((eVar 1).bind fun d => EM.ret (!isN d)) (t2 gGt (e2 gSub (eVar 4) (eVar 1)) (eVar 2)))) (sAsg 2 (e2 gSub (eVar 4) (eVar 1))) sNil)))) (sRet (eVar 2))))
noncomputable def f_clause_length : EM D := fOf 2 5 b_clause_length
theorem o_clause_length (X : K.In h) (G : h.Ns mainGlobals mg) (c : SaysE fa fn ts er w K) : ∃ fd, FunD K "clause_length" "clause_length" (defArgs s25) (defBody s25) (defScope s25) [] [] (ga K "clause_length") fd ∧ FnOk Pg w K mg base CX0 1 (ga K "clause_length") fd ["clause", "lag"] (sp0 K mg f_clause_length) := by
  obtain ⟨fd, F⟩ := c.def_ 25 (d := d25) rfl
  have F : FunD K "clause_length" "clause_length" (defArgs s25) (defBody s25) (defScope s25) [] [] (ga K "clause_length") fd := F
  have O : FnOk Pg w K mg base CX0 (0 + 1) (ga K "clause_length") fd ["clause", "lag"] (sp0 K mg (fOf (List.length ["clause", "lag"]) N_clause_length.length b_clause_length)) := fn0 (k := 0) (N := N_clause_length) (ps := ["clause", "lag"]) (b := b_clause_length) F scclause_length (fun cdv A outer s H E hr => (dss_cons (ds_set (i := 2) ndclause_length rfl (by first | exact Or.inl rfl | exact Or.inr rfl) (de_neg de_int)) (dss_cons (ds_for PassesOwn.never rfl (di_seq (de_var 0 (pv 0))) (pg_tup rfl (dgs_cons (pg_name (i := 3) ndclause_length rfl (by first | exact Or.inl rfl | exact Or.inr rfl)) (dgs_cons (pg_name (i := 4) ndclause_length rfl (by first | exact Or.inl rfl | exact Or.inr rfl)) dgs_nil))) (dss_cons (ds_if (PW.pt (dw_and (dt_cmp (op_neA hr.units) od_ne (de_var 3 (pv 3)) de_str (nobehind _ (by decide) (by decide))) (dw_and1 (dt_cmp (op_neA hr.units) od_ne (de_var 3 (pv 3)) de_str (nobehind _ (by decide) (by decide)))))) (dss_one (ds_ret de_non)) dss_nil) (dss_cons (ds_if (PW.pt (dw_and (dt_cmp (op_eqA hr.units) od_eq (de_var 3 (pv 3)) de_str (nobehind _ (by decide) (by decide))) (dw_and1 (dt_cmp op_gt (od_cmp _) (de_var 4 (pv 4)) (de_var 2 (pv 2)) (nobehind _ (by decide) (by decide)))))) (dss_one (ds_set (i := 2) ndclause_length rfl (by first | exact Or.inl rfl | exact Or.inr rfl) (de_var 4 (pv 4)))) dss_nil) (dss_one (ds_if (PW.pt (dw_and (dt_cmp (op_eqA hr.units) od_eq (de_var 3 (pv 3)) de_str (nobehind _ (by decide) (by decide))) (dw_and (dt_notN (de_var 1 (pv 1))) (dw_and1 (dt_cmp op_gt (od_cmp _) (de_op op_sub od_sub (de_var 4 (pv 4)) (de_var 1 (pv 1))) (de_var 2 (pv 2)) (nobehind _ (by decide) (by decide))))))) (dss_one (ds_set (i := 2) ndclause_length rfl (by first | exact Or.inl rfl | exact Or.inr rfl) (de_op op_sub od_sub (de_var 4 (pv 4)) (de_var 1 (pv 1))))) dss_nil))))) (dss_one (ds_ret (de_var 2 (pv 2)))))))
  exact ⟨fd, F, O⟩
theorem r_clause_length (X : K.In h) (G : h.Ns mainGlobals mg) (c : SaysE fa fn ts er w K) : FnR Pg w K mg base CX0 1 (ga K "clause_length") (sp0 K mg f_clause_length) := by
  obtain ⟨fd, F, O⟩ := o_clause_length (base := base) X G c
  exact FnR.all O (F.bindsN fun _ _ _ _ _ _ us hl => match us, hl with | [_, _], _ => rfl)
/-! ### safe_length -/
abbrev N_safe_length : List Str := ["rule", "lag", "least", "clause", "found"]
theorem ndsafe_length : (N_safe_length).Nodup := by decide
theorem scsafe_length : FnScope N_safe_length ["rule", "lag"] (defScope s26) := ⟨rfl, rfl, rfl, ndsafe_length, rfl, by decide +kernel, by decide +kernel⟩
noncomputable def b_safe_length : EM Fl := (sSeq (sDrop (eCall0 f_check_allowed (aCons (eFld "Rule" "marks" (eVar 0)) (aCons (EM.ret (.tup (t_KEEP_MARKS.map .str))) aNil)))) (sSeq (sIf (tNot' ((eCall0 f_is_bound (aCons (eVar 1) aNil)).bind toB)) sBad sNil) (sSeq (sAsg 2 (EM.ret .non)) (sSeq (sFor (.nm 3) (iSeq (eProp "Rule" f_Rule_clauses (eVar 0))) (sSeq (sAsg 4 (eCall0 f_clause_length (aCons (eVar 3) (aCons (eVar 1) aNil)))) (sIf ((eCall0 f_bound_at_most (aCons (eVar 4) (aCons (eVar 2) aNil))).bind toB) (sAsg 2 (eVar 4)) sNil))) (sRet (eVar 2))))))
noncomputable def f_safe_length : EM D := fOf 2 5 b_safe_length
theorem o_safe_length (X : K.In h) (G : h.Ns mainGlobals mg) (c : SaysE fa fn ts er w K) : ∃ fd, FunD K "safe_length" "safe_length" (defArgs s26) (defBody s26) (defScope s26) [] [] (ga K "safe_length") fd ∧ FnOk Pg w K mg base CX0 3 (ga K "safe_length") fd ["rule", "lag"] (sp0 K mg f_safe_length) := by
  obtain ⟨fd, F⟩ := c.def_ 26 (d := d26) rfl
  have F : FunD K "safe_length" "safe_length" (defArgs s26) (defBody s26) (defScope s26) [] [] (ga K "safe_length") fd := F
  have O : FnOk Pg w K mg base CX0 (2 + 1) (ga K "safe_length") fd ["rule", "lag"] (sp0 K mg (fOf (List.length ["rule", "lag"]) N_safe_length.length b_safe_length)) := fn0 (k := 2) (N := N_safe_length) (ps := ["rule", "lag"]) (b := b_safe_length) F scsafe_length (fun cdv A outer s H E hr => (dss_cons (ds_drop (de_call0 (r_check_allowed X G c) (hr.mono (by decide)) rfl (g_check_allowed X G c) (kk_check_allowed c) (da_cons (de_fld (kl_Rule X G c) (kf_Rule_marks c) (de_var 0 (pv 0))) (da_cons (de_glob (con_tup (kt_KEEP_MARKS X G c)) rfl) da_nil)))) (dss_cons (ds_if (dt_not (dt_val (de_call0 (r_is_bound X G c) (hr.mono (by decide)) rfl (g_is_bound X G c) (kk_is_bound c) (da_cons (de_var 1 (pv 1)) da_nil)))) dss_bad dss_nil) (dss_cons (ds_set (i := 2) ndsafe_length rfl (by first | exact Or.inl rfl | exact Or.inr rfl) de_non) (dss_cons (ds_for PassesOwn.never rfl (di_seq (de_propE (kl_Rule X G c) (kp_Rule_clauses c) (q_Rule_clauses X G c) (hr.mono (by decide)) (de_var 0 (pv 0)))) (dg_nm (pg_name (i := 3) ndsafe_length rfl (by first | exact Or.inl rfl | exact Or.inr rfl))) (dss_cons (ds_set (i := 4) ndsafe_length rfl (by first | exact Or.inl rfl | exact Or.inr rfl) (de_call0 (r_clause_length X G c) (hr.mono (by decide)) rfl (g_clause_length X G c) (kk_clause_length c) (da_cons (de_var 3 (pv 3)) (da_cons (de_var 1 (pv 1)) da_nil)))) (dss_one (ds_if (dt_val (de_call0 (r_bound_at_most X G c) (hr.mono (by decide)) rfl (g_bound_at_most X G c) (kk_bound_at_most c) (da_cons (de_var 4 (pv 4)) (da_cons (de_var 2 (pv 2)) da_nil)))) (dss_one (ds_set (i := 2) ndsafe_length rfl (by first | exact Or.inl rfl | exact Or.inr rfl) (de_var 4 (pv 4)))) dss_nil)))) (dss_one (ds_ret (de_var 2 (pv 2)))))))))
  exact ⟨fd, F, O⟩
theorem r_safe_length (X : K.In h) (G : h.Ns mainGlobals mg) (c : SaysE fa fn ts er w K) : FnR Pg w K mg base CX0 3 (ga K "safe_length") (sp0 K mg f_safe_length) := by
  obtain ⟨fd, F, O⟩ := o_safe_length (base := base) X G c
  exact FnR.all O (F.bindsN fun _ _ _ _ _ _ us hl => match us, hl with | [_, _], _ => rfl)
/-! ### frontier -/
abbrev N_frontier : List Str := ["rule", "found", "reach", "lag", "length"]
theorem ndfrontier : (N_frontier).Nodup := by decide
theorem scfrontier : FnScope N_frontier ["rule"] (defScope s27) := ⟨rfl, rfl, rfl, ndfrontier, rfl, by decide +kernel, by decide +kernel⟩
noncomputable def b_frontier : EM Fl := (sSeq (sDrop (eCall0 f_check_allowed (aCons (eFld "Rule" "marks" (eVar 0)) (aCons (EM.ret (.tup (t_KEEP_MARKS.map .str))) aNil)))) (sSeq (sAsgO 1 (oLst aNil)) (sSeq (sAsg 2 ((EM.ret (.int 1)).bind fun d => EM.opt (gNeg d))) (sSeq (sFor (.nm 3) (iSeq (e2 gAdd (eFz (oLst (aCons (EM.ret .non) aNil))) (eBlt gDown (aCons (EM.ret (.int 49)) (aCons ((EM.ret (.int 1)).bind fun d => EM.opt (gNeg d)) (aCons ((EM.ret (.int 1)).bind fun d => EM.opt (gNeg d)) aNil)))))) (sSeq (sAsg 4 (eCall0 f_safe_length (aCons (eVar 0) (aCons (eVar 3) aNil)))) (sSeq (sIf (tAnd' ((eVar 4).bind fun d => EM.ret (!isN d)) (t2 gGt (eVar 4) (EM.ret (.int 49)))) (sAsg 4 (EM.ret (.int 49))) sNil) (sIf (tNot' ((eCall0 f_bound_at_most (aCons (eVar 4) (aCons (eVar 2) aNil))).bind toB)) (sSeq (sApp 1 (aCons (eMake "World" f_World___init__ (aCons (eVar 3) (aCons (eVar 4) aNil))) aNil)) (sAsg 2 (eVar 4))) sNil)))) (sRet (eVar 1))))))
noncomputable def f_frontier : EM D := fOf 1 5 b_frontier
noncomputable def b_x_frontier : EM Fl := (sSeq (sDrop (eCall f_x_check_allowed (aCons (eFld "Rule" "marks" (eVar 0)) (aCons (EM.ret (.tup (t_KEEP_MARKS.map .str))) aNil)))) (sSeq (sAsgO 1 (oLst aNil)) (sSeq (sAsg 2 ((EM.ret (.int 1)).bind fun d => EM.opt (gNeg d))) (sSeq (sFor (.nm 3) (iSeq (e2 gAdd (eFz (oLst (aCons (EM.ret .non) aNil))) (eBlt gDown (aCons (EM.ret (.int 49)) (aCons ((EM.ret (.int 1)).bind fun d => EM.opt (gNeg d)) (aCons ((EM.ret (.int 1)).bind fun d => EM.opt (gNeg d)) aNil)))))) (sSeq (sAsg 4 (eCall0 f_safe_length (aCons (eVar 0) (aCons (eVar 3) aNil)))) (sSeq (sIf (tAnd' ((eVar 4).bind fun d => EM.ret (!isN d)) (t2 gGt (eVar 4) (EM.ret (.int 49)))) (sAsg 4 (EM.ret (.int 49))) sNil) (sIf (tNot' ((eCall0 f_bound_at_most (aCons (eVar 4) (aCons (eVar 2) aNil))).bind toB)) (sSeq (sApp 1 (aCons (eMake "World" f_World___init__ (aCons (eVar 3) (aCons (eVar 4) aNil))) aNil)) (sAsg 2 (eVar 4))) sNil)))) (sRet (eVar 1))))))
noncomputable def f_x_frontier : EM D := fOf 1 5 b_x_frontier
theorem r_x_frontier (X : K.In h) (G : h.Ns mainGlobals mg) (c : SaysE fa fn ts er w K) : FnR Pg w K mg base (L2.CX Pg w) 5 (ga K "frontier") (spG K mg f_x_frontier) := by
  obtain ⟨fd, F⟩ := c.def_ 27 (d := d27) rfl
  have F : FunD K "frontier" "frontier" (defArgs s27) (defBody s27) (defScope s27) [] [] (ga K "frontier") fd := F
  have O : FnOk Pg w K mg base (L2.CX Pg w) (4 + 1) (ga K "frontier") fd ["rule"] (spG K mg (fOf (List.length ["rule"]) N_frontier.length b_x_frontier)) := fnX (k := 4) (N := N_frontier) (ps := ["rule"]) (b := b_x_frontier) F scfrontier (fun cdv A outer s H E hr => (dss_cons (ds_drop (de_call (r_x_check_allowed X G c) (lets_of (takes_of rfl rfl rfl rfl)) (hr.mono (by decide)) rfl (g_check_allowed X G c) (kk_check_allowed c) (da_cons (de_fld (kl_Rule X G c) (kf_Rule_marks c) (de_var 0 (pv 0))) (da_cons (de_glob (con_tup (kt_KEEP_MARKS X G c)) rfl) da_nil)))) (dss_cons (ds_setO (i := 1) ndfrontier rfl (by first | exact Or.inl rfl | exact Or.inr rfl) (do_lst da_nil)) (dss_cons (ds_set (i := 2) ndfrontier rfl (by first | exact Or.inl rfl | exact Or.inr rfl) (de_neg de_int)) (dss_cons (ds_for (passes_of rfl) rfl (di_seq (de_op op_addA od_add (de_fz (do_lst (da_cons de_non da_nil))) (de_listDown rfl rfl (n_list X G c) rfl (n_range X G c) (da_cons (de_glob (kc_BOUND_LIMIT X G c) rfl) (da_cons (de_neg de_int) (da_cons (de_neg de_int) da_nil)))))) (dg_nm (pg_name (i := 3) ndfrontier rfl (by first | exact Or.inl rfl | exact Or.inr rfl))) (dss_cons (ds_set (i := 4) ndfrontier rfl (by first | exact Or.inl rfl | exact Or.inr rfl) (de_call0 (r_safe_length X G c) (hr.mono (by decide)) rfl (g_safe_length X G c) (kk_safe_length c) (da_cons (de_var 0 (pv 0)) (da_cons (de_var 3 (pv 3)) da_nil)))) (dss_cons (ds_if (PW.pt (dw_and (dt_notN (de_var 4 (pv 4))) (dw_and1 (dt_cmp op_gt (od_cmp _) (de_var 4 (pv 4)) (de_glob (kc_BOUND_LIMIT X G c) rfl) (nobehind _ (by decide) (by decide)))))) (dss_one (ds_set (i := 4) ndfrontier rfl (by first | exact Or.inl rfl | exact Or.inr rfl) (de_glob (kc_BOUND_LIMIT X G c) rfl))) dss_nil) (dss_one (ds_if (dt_not (dt_val (de_call0 (r_bound_at_most X G c) (hr.mono (by decide)) rfl (g_bound_at_most X G c) (kk_bound_at_most c) (da_cons (de_var 4 (pv 4)) (da_cons (de_var 2 (pv 2)) da_nil))))) (dss_cons (ds_app 1 (pv 1) (da_cons (de_make0 (km_World c) (r_World___init__ X G c) (hr.mono (by decide)) rfl (g_World X G c) (da_cons (de_var 3 (pv 3)) (da_cons (de_var 4 (pv 4)) da_nil))) da_nil)) (dss_one (ds_set (i := 2) ndfrontier rfl (by first | exact Or.inl rfl | exact Or.inr rfl) (de_var 4 (pv 4))))) dss_nil))))) (dss_one (ds_ret (de_var 1 (pv 1)))))))))
  exact (O.raw (F.bindsN fun _ _ _ _ _ _ us hl => match us, hl with | [_], _ => rfl) .nil).imp fun vs H Q E h => by rw [List.append_nil]; exact h
noncomputable def b_o_frontier : EM Fl := (sSeq (sDrop (eCall0 f_check_allowed (aCons (eFld "Rule" "marks" (eVar 0)) (aCons (EM.ret (.tup (t_KEEP_MARKS.map .str))) aNil)))) (sSeq (sAsgO 1 (oLst aNil)) (sSeq (sAsg 2 ((EM.ret (.int 1)).bind fun d => EM.opt (gNeg d))) (sFor (.nm 3) (iSeq (e2 gAdd (eFz (oLst (aCons (EM.ret .non) aNil))) (eBlt gDown (aCons (EM.ret (.int 49)) (aCons ((EM.ret (.int 1)).bind fun d => EM.opt (gNeg d)) (aCons ((EM.ret (.int 1)).bind fun d => EM.opt (gNeg d)) aNil)))))) (sSeq (sAsg 4 (eCall0 f_safe_length (aCons (eVar 0) (aCons (eVar 3) aNil)))) (sSeq (sIf (tAnd' ((eVar 4).bind fun d => EM.ret (!isN d)) (t2 gGt (eVar 4) (EM.ret (.int 49)))) (sAsg 4 (EM.ret (.int 49))) sNil) (sIf (tNot' ((eCall0 f_bound_at_most (aCons (eVar 4) (aCons (eVar 2) aNil))).bind toB)) (sSeq (sApp 1 (aCons (eMake "World" f_World___init__ (aCons (eVar 3) (aCons (eVar 4) aNil))) aNil)) (sAsg 2 (eVar 4))) sNil)))))))
noncomputable def f_o_frontier : FO := fOO 1 5 (gRetO b_o_frontier 1)
theorem r_o_frontier (X : K.In h) (G : h.Ns mainGlobals mg) (c : SaysE fa fn ts er w K) : FnR Pg w K mg base CX0 5 (ga K "frontier") (spO K mg f_o_frontier) := by
  obtain ⟨fd, F⟩ := c.def_ 27 (d := d27) rfl
  have F : FunD K "frontier" "frontier" (defArgs s27) (defBody s27) (defScope s27) [] [] (ga K "frontier") fd := F
  have O : FnOk Pg w K mg base CX0 (4 + 1) (ga K "frontier") fd ["rule"] (spO K mg (fOO (List.length ["rule"]) N_frontier.length (gRetO b_o_frontier 1))) := fnOB (k := 4) (N := N_frontier) (ps := ["rule"]) (b := b_o_frontier) (ss := (defBody s27).take 4) (y := "found") F scfrontier rfl (fun cdv A outer s H E hr => ⟨(dss_cons (ds_drop (de_call0 (r_check_allowed X G c) (hr.mono (by decide)) rfl (g_check_allowed X G c) (kk_check_allowed c) (da_cons (de_fld (kl_Rule X G c) (kf_Rule_marks c) (de_var 0 (pv 0))) (da_cons (de_glob (con_tup (kt_KEEP_MARKS X G c)) rfl) da_nil)))) (dss_cons (ds_setO (i := 1) ndfrontier rfl (by first | exact Or.inl rfl | exact Or.inr rfl) (do_lst da_nil)) (dss_cons (ds_set (i := 2) ndfrontier rfl (by first | exact Or.inl rfl | exact Or.inr rfl) (de_neg de_int)) (dss_one (ds_for PassesOwn.never rfl (di_seq (de_op op_addA od_add (de_fz (do_lst (da_cons de_non da_nil))) (de_listDown rfl rfl (n_list X G c) rfl (n_range X G c) (da_cons (de_glob (kc_BOUND_LIMIT X G c) rfl) (da_cons (de_neg de_int) (da_cons (de_neg de_int) da_nil)))))) (dg_nm (pg_name (i := 3) ndfrontier rfl (by first | exact Or.inl rfl | exact Or.inr rfl))) (dss_cons (ds_set (i := 4) ndfrontier rfl (by first | exact Or.inl rfl | exact Or.inr rfl) (de_call0 (r_safe_length X G c) (hr.mono (by decide)) rfl (g_safe_length X G c) (kk_safe_length c) (da_cons (de_var 0 (pv 0)) (da_cons (de_var 3 (pv 3)) da_nil)))) (dss_cons (ds_if (PW.pt (dw_and (dt_notN (de_var 4 (pv 4))) (dw_and1 (dt_cmp op_gt (od_cmp _) (de_var 4 (pv 4)) (de_glob (kc_BOUND_LIMIT X G c) rfl) (nobehind _ (by decide) (by decide)))))) (dss_one (ds_set (i := 4) ndfrontier rfl (by first | exact Or.inl rfl | exact Or.inr rfl) (de_glob (kc_BOUND_LIMIT X G c) rfl))) dss_nil) (dss_one (ds_if (dt_not (dt_val (de_call0 (r_bound_at_most X G c) (hr.mono (by decide)) rfl (g_bound_at_most X G c) (kk_bound_at_most c) (da_cons (de_var 4 (pv 4)) (da_cons (de_var 2 (pv 2)) da_nil))))) (dss_cons (ds_app 1 (pv 1) (da_cons (de_make0 (km_World c) (r_World___init__ X G c) (hr.mono (by decide)) rfl (g_World X G c) (da_cons (de_var 3 (pv 3)) (da_cons (de_var 4 (pv 4)) da_nil))) da_nil)) (dss_one (ds_set (i := 2) ndfrontier rfl (by first | exact Or.inl rfl | exact Or.inr rfl) (de_var 4 (pv 4))))) dss_nil))))))))), pv 1⟩)
  exact (O.raw (F.bindsN fun _ _ _ _ _ _ us hl => match us, hl with | [_], _ => rfl) .nil).imp fun vs H Q E h => by rw [List.append_nil]; exact h
theorem o_frontier (X : K.In h) (G : h.Ns mainGlobals mg) (c : SaysE fa fn ts er w K) : ∃ fd, FunD K "frontier" "frontier" (defArgs s27) (defBody s27) (defScope s27) [] [] (ga K "frontier") fd ∧ FnOk Pg w K mg base CX0 5 (ga K "frontier") fd ["rule"] (sp0 K mg f_frontier) := by
  obtain ⟨fd, F⟩ := c.def_ 27 (d := d27) rfl
  have F : FunD K "frontier" "frontier" (defArgs s27) (defBody s27) (defScope s27) [] [] (ga K "frontier") fd := F
  have O : FnOk Pg w K mg base CX0 (4 + 1) (ga K "frontier") fd ["rule"] (sp0 K mg (fOf (List.length ["rule"]) N_frontier.length b_frontier)) := fn0 (k := 4) (N := N_frontier) (ps := ["rule"]) (b := b_frontier) F scfrontier (fun cdv A outer s H E hr => (dss_cons (ds_drop (de_call0 (r_check_allowed X G c) (hr.mono (by decide)) rfl (g_check_allowed X G c) (kk_check_allowed c) (da_cons (de_fld (kl_Rule X G c) (kf_Rule_marks c) (de_var 0 (pv 0))) (da_cons (de_glob (con_tup (kt_KEEP_MARKS X G c)) rfl) da_nil)))) (dss_cons (ds_setO (i := 1) ndfrontier rfl (by first | exact Or.inl rfl | exact Or.inr rfl) (do_lst da_nil)) (dss_cons (ds_set (i := 2) ndfrontier rfl (by first | exact Or.inl rfl | exact Or.inr rfl) (de_neg de_int)) (dss_cons (ds_for PassesOwn.never rfl (di_seq (de_op op_addA od_add (de_fz (do_lst (da_cons de_non da_nil))) (de_listDown rfl rfl (n_list X G c) rfl (n_range X G c) (da_cons (de_glob (kc_BOUND_LIMIT X G c) rfl) (da_cons (de_neg de_int) (da_cons (de_neg de_int) da_nil)))))) (dg_nm (pg_name (i := 3) ndfrontier rfl (by first | exact Or.inl rfl | exact Or.inr rfl))) (dss_cons (ds_set (i := 4) ndfrontier rfl (by first | exact Or.inl rfl | exact Or.inr rfl) (de_call0 (r_safe_length X G c) (hr.mono (by decide)) rfl (g_safe_length X G c) (kk_safe_length c) (da_cons (de_var 0 (pv 0)) (da_cons (de_var 3 (pv 3)) da_nil)))) (dss_cons (ds_if (PW.pt (dw_and (dt_notN (de_var 4 (pv 4))) (dw_and1 (dt_cmp op_gt (od_cmp _) (de_var 4 (pv 4)) (de_glob (kc_BOUND_LIMIT X G c) rfl) (nobehind _ (by decide) (by decide)))))) (dss_one (ds_set (i := 4) ndfrontier rfl (by first | exact Or.inl rfl | exact Or.inr rfl) (de_glob (kc_BOUND_LIMIT X G c) rfl))) dss_nil) (dss_one (ds_if (dt_not (dt_val (de_call0 (r_bound_at_most X G c) (hr.mono (by decide)) rfl (g_bound_at_most X G c) (kk_bound_at_most c) (da_cons (de_var 4 (pv 4)) (da_cons (de_var 2 (pv 2)) da_nil))))) (dss_cons (ds_app 1 (pv 1) (da_cons (de_make0 (km_World c) (r_World___init__ X G c) (hr.mono (by decide)) rfl (g_World X G c) (da_cons (de_var 3 (pv 3)) (da_cons (de_var 4 (pv 4)) da_nil))) da_nil)) (dss_one (ds_set (i := 2) ndfrontier rfl (by first | exact Or.inl rfl | exact Or.inr rfl) (de_var 4 (pv 4))))) dss_nil))))) (dss_one (ds_ret (de_var 1 (pv 1)))))))))
  exact ⟨fd, F, O⟩
theorem r_frontier (X : K.In h) (G : h.Ns mainGlobals mg) (c : SaysE fa fn ts er w K) : FnR Pg w K mg base CX0 5 (ga K "frontier") (sp0 K mg f_frontier) := by
  obtain ⟨fd, F, O⟩ := o_frontier (base := base) X G c
  exact FnR.all O (F.bindsN fun _ _ _ _ _ _ us hl => match us, hl with | [_], _ => rfl)
end Wk

set_option Elab.async false
set_option linter.all false
set_option maxRecDepth 100000
set_option maxHeartbeats 0
namespace Wk
open PySem PySem.Spec L2 He HW DL HdT
open PyProof.Rows hiding St

variable {w : World} {K : PySem.W.Frag} {h base : Heap} {mg : Str → Option Value}
/-! ### _law_same -/
abbrev N__law_same : List Str := ["here", "there", "key", "k"]
theorem nd_law_same : (N__law_same).Nodup := by decide
theorem sc_law_same : FnScope N__law_same ["here", "there"] (defScope s28) := ⟨rfl, rfl, rfl, nd_law_same, rfl, by decide +kernel, by decide +kernel⟩
noncomputable def b__law_same (fr : EM D) : EM Fl := (sSeq (sIf (tOr' ((eVar 0).bind fun d => EM.ret (isN d)) ((eVar 1).bind fun d => EM.ret (isN d))) (sRet (eAnd ((eVar 0).bind fun d => EM.ret (.bl (isN d))) ((eVar 1).bind fun d => EM.ret (.bl (isN d))))) sNil) (sSeq (sIf (tOr' (((eIsi "bool" (eVar 0)).bind fun b => EM.ret (.bl b)).bind toB) (((eIsi "bool" (eVar 1)).bind fun b => EM.ret (.bl b)).bind toB)) (sRet (eAnd ((eIsi "bool" (eVar 0)).bind fun b => EM.ret (.bl b)) (eAnd ((eIsi "bool" (eVar 1)).bind fun b => EM.ret (.bl b)) (e2 (gB gEq) (eVar 0) (eVar 1))))) sNil) (sSeq (sIf (tOr' (((eIsi "int" (eVar 0)).bind fun b => EM.ret (.bl b)).bind toB) (((eIsi "int" (eVar 1)).bind fun b => EM.ret (.bl b)).bind toB)) (sRet (eAnd ((eIsi "int" (eVar 0)).bind fun b => EM.ret (.bl b)) (eAnd ((eIsi "int" (eVar 1)).bind fun b => EM.ret (.bl b)) (e2 (gB gEq) (eVar 0) (eVar 1))))) sNil) (sSeq (sIf (tOr' (((eIsi "str" (eVar 0)).bind fun b => EM.ret (.bl b)).bind toB) (((eIsi "str" (eVar 1)).bind fun b => EM.ret (.bl b)).bind toB)) (sRet (eAnd ((eIsi "str" (eVar 0)).bind fun b => EM.ret (.bl b)) (eAnd ((eIsi "str" (eVar 1)).bind fun b => EM.ret (.bl b)) (e2 (gB gEq) (eVar 0) (eVar 1))))) sNil) (sSeq (sIf (tAnd' (((eIsi "dict" (eVar 0)).bind fun b => EM.ret (.bl b)).bind toB) (((eIsi "dict" (eVar 1)).bind fun b => EM.ret (.bl b)).bind toB)) sBad sNil) (sSeq (sIf (tOr' (t2 gNe ((eIsi "tuple" (eVar 0)).bind fun b => EM.ret (.bl b)) ((eIsi "tuple" (eVar 1)).bind fun b => EM.ret (.bl b))) (t2 gNe ((eIsi "list" (eVar 0)).bind fun b => EM.ret (.bl b)) ((eIsi "list" (eVar 1)).bind fun b => EM.ret (.bl b)))) (sRet (EM.ret (.bl false))) sNil) (sSeq (sIf (tAnd' (tNot' (((eIsi "tuple" (eVar 0)).bind fun b => EM.ret (.bl b)).bind toB)) (tNot' (((eIsi "list" (eVar 0)).bind fun b => EM.ret (.bl b)).bind toB))) (sRet (EM.ret (.bl false))) sNil) (sSeq (sIf (t2 gNe (eLenV 0) (eLenV 1)) (sRet (EM.ret (.bl false))) sNil) (sSeq (sFor (.nm 3) (iRg1 (aCons (eLenV 0) aNil)) (sIf (tNot' ((eCall0 fr (aCons (eIxV 0 (eVar 3)) (aCons (eIxV 1 (eVar 3)) aNil))).bind toB)) (sRet (EM.ret (.bl false))) sNil)) (sRet (EM.ret (.bl true))))))))))))
noncomputable def f__law_same : Nat → EM D
  | 0 => fun _ => .bad
  | n + 1 => fOf 2 4 (b__law_same (f__law_same n))
theorem r__law_same (X : K.In h) (G : h.Ns mainGlobals mg) (c : SaysE fa fn ts er w K) : ∀ n, FnR Pg w K mg base CX0 (1 + n) (ga K "_law_same") (sp0 K mg (f__law_same n))
  | 0 => fun A outer s H us vs Q E hr e0 r h => by
    obtain ⟨_, _, _, _, h⟩ := h
    exact h.elim
  | n + 1 => by
    have R0 := r__law_same X G c n
    generalize hfr : f__law_same n = fr at R0
    obtain ⟨fd, F⟩ := c.def_ 28 (d := d28) rfl
    have F : FunD K "_law_same" "_law_same" (defArgs s28) (defBody s28) (defScope s28) [] [] (ga K "_law_same") fd := F
    show FnR Pg w K mg base CX0 (1 + n + 1) (ga K "_law_same") (sp0 K mg (fOf 2 4 (b__law_same (f__law_same n))))
    rw [hfr]
    have O : FnOk Pg w K mg base CX0 (1 + n + 1) (ga K "_law_same") fd ["here", "there"] (sp0 K mg (fOf (List.length ["here", "there"]) N__law_same.length (b__law_same fr))) := fn0 (k := 1 + n) (N := N__law_same) (ps := ["here", "there"]) (b := b__law_same fr) F sc_law_same (fun cdv A outer s H E hr => (dss_cons (ds_if (PW.pt (dw_or (dt_isN (de_var 0 (pv 0))) (dw_or1 (dt_isN (de_var 1 (pv 1)))))) (dss_one (ds_ret (de_and (de_isN (de_var 0 (pv 0))) (de_one (de_isN (de_var 1 (pv 1))))))) dss_nil) (dss_cons (ds_if (PW.pt (dw_or (dt_val (de_isi rfl (n_isinstance X G c) rfl (n_bool X G c) bt_bool (de_var 0 (pv 0)) bt_isinstance)) (dw_or1 (dt_val (de_isi rfl (n_isinstance X G c) rfl (n_bool X G c) bt_bool (de_var 1 (pv 1)) bt_isinstance))))) (dss_one (ds_ret (de_and (de_isi rfl (n_isinstance X G c) rfl (n_bool X G c) bt_bool (de_var 0 (pv 0)) bt_isinstance) (de_and (de_isi rfl (n_isinstance X G c) rfl (n_bool X G c) bt_bool (de_var 1 (pv 1)) bt_isinstance) (de_one (de_cmp (op_eqA hr.units) od_eq (de_var 0 (pv 0)) (de_var 1 (pv 1)) (nobehind _ (by decide) (by decide)))))))) dss_nil) (dss_cons (ds_if (PW.pt (dw_or (dt_val (de_isi rfl (n_isinstance X G c) rfl (n_int X G c) bt_int (de_var 0 (pv 0)) bt_isinstance)) (dw_or1 (dt_val (de_isi rfl (n_isinstance X G c) rfl (n_int X G c) bt_int (de_var 1 (pv 1)) bt_isinstance))))) (dss_one (ds_ret (de_and (de_isi rfl (n_isinstance X G c) rfl (n_int X G c) bt_int (de_var 0 (pv 0)) bt_isinstance) (de_and (de_isi rfl (n_isinstance X G c) rfl (n_int X G c) bt_int (de_var 1 (pv 1)) bt_isinstance) (de_one (de_cmp (op_eqA hr.units) od_eq (de_var 0 (pv 0)) (de_var 1 (pv 1)) (nobehind _ (by decide) (by decide)))))))) dss_nil) (dss_cons (ds_if (PW.pt (dw_or (dt_val (de_isi rfl (n_isinstance X G c) rfl (n_str X G c) bt_str (de_var 0 (pv 0)) bt_isinstance)) (dw_or1 (dt_val (de_isi rfl (n_isinstance X G c) rfl (n_str X G c) bt_str (de_var 1 (pv 1)) bt_isinstance))))) (dss_one (ds_ret (de_and (de_isi rfl (n_isinstance X G c) rfl (n_str X G c) bt_str (de_var 0 (pv 0)) bt_isinstance) (de_and (de_isi rfl (n_isinstance X G c) rfl (n_str X G c) bt_str (de_var 1 (pv 1)) bt_isinstance) (de_one (de_cmp (op_eqA hr.units) od_eq (de_var 0 (pv 0)) (de_var 1 (pv 1)) (nobehind _ (by decide) (by decide)))))))) dss_nil) (dss_cons (ds_if (PW.pt (dw_and (dt_val (de_isi rfl (n_isinstance X G c) rfl (n_dict X G c) bt_dict (de_var 0 (pv 0)) bt_isinstance)) (dw_and1 (dt_val (de_isi rfl (n_isinstance X G c) rfl (n_dict X G c) bt_dict (de_var 1 (pv 1)) bt_isinstance))))) dss_bad dss_nil) (dss_cons (ds_if (PW.pt (dw_or (dt_cmp (op_neA hr.units) od_ne (de_isi rfl (n_isinstance X G c) rfl (n_tuple X G c) bt_tuple (de_var 0 (pv 0)) bt_isinstance) (de_isi rfl (n_isinstance X G c) rfl (n_tuple X G c) bt_tuple (de_var 1 (pv 1)) bt_isinstance) (nobehind _ (by decide) (by decide))) (dw_or1 (dt_cmp (op_neA hr.units) od_ne (de_isi rfl (n_isinstance X G c) rfl (n_list X G c) bt_list (de_var 0 (pv 0)) bt_isinstance) (de_isi rfl (n_isinstance X G c) rfl (n_list X G c) bt_list (de_var 1 (pv 1)) bt_isinstance) (nobehind _ (by decide) (by decide)))))) (dss_one (ds_ret de_bl)) dss_nil) (dss_cons (ds_if (PW.pt (dw_and (dt_not (dt_val (de_isi rfl (n_isinstance X G c) rfl (n_tuple X G c) bt_tuple (de_var 0 (pv 0)) bt_isinstance))) (dw_and1 (dt_not (dt_val (de_isi rfl (n_isinstance X G c) rfl (n_list X G c) bt_list (de_var 0 (pv 0)) bt_isinstance)))))) (dss_one (ds_ret de_bl)) dss_nil) (dss_cons (ds_if (dt_cmp (op_neA hr.units) od_ne (de_lenV 0 rfl (n_len X G c) bt_len (pv 0)) (de_lenV 1 rfl (n_len X G c) bt_len (pv 1)) (nobehind _ (by decide) (by decide))) (dss_one (ds_ret de_bl)) dss_nil) (dss_cons (ds_for PassesOwn.never rfl (di_rg1 rfl (n_range X G c) (da_cons (de_lenV 0 rfl (n_len X G c) bt_len (pv 0)) da_nil)) (dg_nm (pg_name (i := 3) nd_law_same rfl (by first | exact Or.inl rfl | exact Or.inr rfl))) (dss_one (ds_if (dt_not (dt_val (de_call0 R0 (hr.mono (by omega)) rfl (g__law_same X G c) (kk__law_same c) (da_cons (de_ixV 0 (pv 0) (de_var 3 (pv 3))) (da_cons (de_ixV 1 (pv 1) (de_var 3 (pv 3))) da_nil))))) (dss_one (ds_ret de_bl)) dss_nil))) (dss_one (ds_ret de_bl))))))))))))
    exact FnR.all O (F.bindsN fun _ _ _ _ _ _ us hl => match us, hl with | [_, _], _ => rfl)
/-! ### _law_start -/
abbrev N__law_start : List Str := ["script"]
theorem nd_law_start : (N__law_start).Nodup := by decide
theorem sc_law_start : FnScope N__law_start ["script"] (defScope s29) := ⟨rfl, rfl, rfl, nd_law_start, rfl, by decide +kernel, by decide +kernel⟩
noncomputable def g_f__law_start : EM (List D) := (oLst (aCons (eBlt gList (aCons (eVar 0) aNil)) (aCons (EM.ret (.int 0)) (aCons (EM.ret (.int 0)) (aCons (EM.ret (.int 0)) (aCons (EM.ret (.int 0)) (aCons (EM.ret (.int 0)) aNil)))))))
noncomputable def f__law_start : FO := fOO 1 1 g_f__law_start
theorem r__law_start (X : K.In h) (G : h.Ns mainGlobals mg) (c : SaysE fa fn ts er w K) : FnR Pg w K mg base CX0 1 (ga K "_law_start") (spO K mg f__law_start) := by
  obtain ⟨fd, F⟩ := c.def_ 29 (d := d29) rfl
  have F : FunD K "_law_start" "_law_start" (defArgs s29) (defBody s29) (defScope s29) [] [] (ga K "_law_start") fd := F
  have O : FnOk Pg w K mg base CX0 (0 + 1) (ga K "_law_start") fd ["script"] (spO K mg (fOO (List.length ["script"]) N__law_start.length g_f__law_start)) := fnO (k := 0) (N := N__law_start) (ps := ["script"]) (g := g_f__law_start) F sc_law_start (show defBody s29 = [.Return (some _) _] from rfl) (fun cdv A outer s H E hr => (do_lst (da_cons (de_ty call_list_of cd_list rfl (n_list X G c) bt_list (da_cons (de_var 0 (pv 0)) da_nil)) (da_cons de_int (da_cons de_int (da_cons de_int (da_cons de_int (da_cons de_int da_nil))))))))
  exact (O.raw (F.bindsN fun _ _ _ _ _ _ us hl => match us, hl with | [_], _ => rfl) .nil).imp fun vs H Q E h => by rw [List.append_nil]; exact h
/-! ### _law_mixed -/
abbrev N__law_mixed : List Str := ["cell", "turn", "limit", "once"]
theorem nd_law_mixed : (N__law_mixed).Nodup := by decide
theorem sc_law_mixed : FnScope N__law_mixed ["cell", "turn", "limit"] (defScope s30) := ⟨rfl, rfl, rfl, nd_law_mixed, rfl, by decide +kernel, by decide +kernel⟩
noncomputable def b__law_mixed : EM Fl := (sSeq (sAsg 3 (e2 gMod (eBlt gInt (aCons (e2 gAdd (e2 gAdd (e2 gMul (eVar 0) (EM.ret (.int 48271))) (e2 gMul (eVar 1) (EM.ret (.int 69621)))) (EM.ret (.int 11))) aNil)) (EM.ret (.int 2147483647)))) (sRet (e2 gMod (e2 gMod (eBlt gInt (aCons (e2 gAdd (e2 gAdd (e2 gMul (eVar 3) (EM.ret (.int 16807))) (e2 gMul (eVar 1) (EM.ret (.int 40692)))) (EM.ret (.int 7))) aNil)) (EM.ret (.int 2147483629))) (eVar 2))))
noncomputable def f__law_mixed : EM D := fOf 3 4 b__law_mixed
theorem o__law_mixed (X : K.In h) (G : h.Ns mainGlobals mg) (c : SaysE fa fn ts er w K) : ∃ fd, FunD K "_law_mixed" "_law_mixed" (defArgs s30) (defBody s30) (defScope s30) [] [] (ga K "_law_mixed") fd ∧ FnOk Pg w K mg base CX0 1 (ga K "_law_mixed") fd ["cell", "turn", "limit"] (sp0 K mg f__law_mixed) := by
  obtain ⟨fd, F⟩ := c.def_ 30 (d := d30) rfl
  have F : FunD K "_law_mixed" "_law_mixed" (defArgs s30) (defBody s30) (defScope s30) [] [] (ga K "_law_mixed") fd := F
  have O : FnOk Pg w K mg base CX0 (0 + 1) (ga K "_law_mixed") fd ["cell", "turn", "limit"] (sp0 K mg (fOf (List.length ["cell", "turn", "limit"]) N__law_mixed.length b__law_mixed)) := fn0 (k := 0) (N := N__law_mixed) (ps := ["cell", "turn", "limit"]) (b := b__law_mixed) F sc_law_mixed (fun cdv A outer s H E hr => (dss_cons (ds_set (i := 3) nd_law_mixed rfl (by first | exact Or.inl rfl | exact Or.inr rfl) (de_op op_mod od_mod (de_ty call_int1 cd_int rfl (n_int X G c) bt_int (da_cons (de_op op_addA od_add (de_op op_addA od_add (de_op op_mul od_mul (de_var 0 (pv 0)) de_int) (de_op op_mul od_mul (de_var 1 (pv 1)) de_int)) de_int) da_nil)) de_int)) (dss_one (ds_ret (de_op op_mod od_mod (de_op op_mod od_mod (de_ty call_int1 cd_int rfl (n_int X G c) bt_int (da_cons (de_op op_addA od_add (de_op op_addA od_add (de_op op_mul od_mul (de_var 3 (pv 3)) de_int) (de_op op_mul od_mul (de_var 1 (pv 1)) de_int)) de_int) da_nil)) de_int) (de_var 2 (pv 2)))))))
  exact ⟨fd, F, O⟩
theorem r__law_mixed (X : K.In h) (G : h.Ns mainGlobals mg) (c : SaysE fa fn ts er w K) : FnR Pg w K mg base CX0 1 (ga K "_law_mixed") (sp0 K mg f__law_mixed) := by
  obtain ⟨fd, F, O⟩ := o__law_mixed (base := base) X G c
  exact FnR.all O (F.bindsN fun _ _ _ _ _ _ us hl => match us, hl with | [_, _, _], _ => rfl)
/-! ### _law_draw -/
abbrev N__law_draw : List Str := ["state", "limit", "digit", "cell"]
theorem nd_law_draw : (N__law_draw).Nodup := by decide
theorem sc_law_draw : FnScope N__law_draw ["state", "limit"] (defScope s31) := ⟨rfl, rfl, rfl, nd_law_draw, rfl, by decide +kernel, by decide +kernel⟩
noncomputable def b__law_draw : EM Fl := (sSeq (sIf (t2 gGt (eIxV 0 (EM.ret (.int 2))) (EM.ret (.int 0))) (sSeq (sAsg 2 (e2 gMod (eBlt gInt (aCons (eIxV 0 (EM.ret (.int 2))) aNil)) (eVar 1))) (sSeq (sSetIx 0 (EM.ret (.int 2)) (e2 gDiv (eIxV 0 (EM.ret (.int 2))) (eVar 1))) (sRet (eVar 2)))) sNil) (sSeq (sIf (t2 gGt (eIxV 0 (EM.ret (.int 4))) (EM.ret (.int 0))) (sSeq (sSetIx 0 (EM.ret (.int 4)) (e2 gSub (eIxV 0 (EM.ret (.int 4))) (EM.ret (.int 1)))) (sSeq (sSetIx 0 (EM.ret (.int 5)) (e2 gAdd (eIxV 0 (EM.ret (.int 5))) (EM.ret (.int 1)))) (sRet (eCall0 f__law_mixed (aCons (eIxV 0 (EM.ret (.int 3))) (aCons (eIxV 0 (EM.ret (.int 5))) (aCons (eVar 1) aNil))))))) sNil) (sSeq (sIf (t2 gGe (eIxV 0 (EM.ret (.int 1))) (eBlt gLen (aCons (eIxV 0 (EM.ret (.int 0))) aNil))) (sRet (EM.ret (.int 0))) sNil) (sSeq (sAsg 3 (e2 gIx (eIxV 0 (EM.ret (.int 0))) (eIxV 0 (EM.ret (.int 1))))) (sSeq (sSetIx 0 (EM.ret (.int 1)) (e2 gAdd (eIxV 0 (EM.ret (.int 1))) (EM.ret (.int 1)))) (sSeq (sIf (t2 gGe (eVar 3) (e2 gPow (EM.ret (.int 10)) (EM.ret (.int 18)))) (sSeq (sSetIx 0 (EM.ret (.int 2)) (e2 gDiv (eVar 3) (eVar 1))) (sRet (e2 gMod (eBlt gInt (aCons (eVar 3) aNil)) (eVar 1)))) sNil) (sSeq (sSetIx 0 (EM.ret (.int 3)) (eVar 3)) (sSeq (sSetIx 0 (EM.ret (.int 4)) (EM.ret (.int 3))) (sSeq (sSetIx 0 (EM.ret (.int 5)) (e2 gAdd (eIxV 0 (EM.ret (.int 5))) (EM.ret (.int 1)))) (sRet (eCall0 f__law_mixed (aCons (eVar 3) (aCons (eIxV 0 (EM.ret (.int 5))) (aCons (eVar 1) aNil))))))))))))))
noncomputable def f__law_draw : EM D := fOf 2 4 b__law_draw
theorem o__law_draw (X : K.In h) (G : h.Ns mainGlobals mg) (c : SaysE fa fn ts er w K) : ∃ fd, FunD K "_law_draw" "_law_draw" (defArgs s31) (defBody s31) (defScope s31) [] [] (ga K "_law_draw") fd ∧ FnOk Pg w K mg base CX0 2 (ga K "_law_draw") fd ["state", "limit"] (sp0 K mg f__law_draw) := by
  obtain ⟨fd, F⟩ := c.def_ 31 (d := d31) rfl
  have F : FunD K "_law_draw" "_law_draw" (defArgs s31) (defBody s31) (defScope s31) [] [] (ga K "_law_draw") fd := F
  have O : FnOk Pg w K mg base CX0 (1 + 1) (ga K "_law_draw") fd ["state", "limit"] (sp0 K mg (fOf (List.length ["state", "limit"]) N__law_draw.length b__law_draw)) := fn0 (k := 1) (N := N__law_draw) (ps := ["state", "limit"]) (b := b__law_draw) F sc_law_draw (fun cdv A outer s H E hr => (dss_cons (ds_if (dt_cmp op_gt (od_cmp _) (de_ixV 0 (pv 0) de_int) de_int (nobehind _ (by decide) (by decide))) (dss_cons (ds_set (i := 2) nd_law_draw rfl (by first | exact Or.inl rfl | exact Or.inr rfl) (de_op op_mod od_mod (de_ty call_int1 cd_int rfl (n_int X G c) bt_int (da_cons (de_ixV 0 (pv 0) de_int) da_nil)) (de_var 1 (pv 1)))) (dss_cons (ds_setIx 0 (pv 0) de_int (de_op op_fdiv od_div (de_ixV 0 (pv 0) de_int) (de_var 1 (pv 1))) (pg_sub (pv 0) de_int set_list)) (dss_one (ds_ret (de_var 2 (pv 2)))))) dss_nil) (dss_cons (ds_if (dt_cmp op_gt (od_cmp _) (de_ixV 0 (pv 0) de_int) de_int (nobehind _ (by decide) (by decide))) (dss_cons (ds_setIx 0 (pv 0) de_int (de_op op_sub od_sub (de_ixV 0 (pv 0) de_int) de_int) (pg_sub (pv 0) de_int set_list)) (dss_cons (ds_setIx 0 (pv 0) de_int (de_op op_addA od_add (de_ixV 0 (pv 0) de_int) de_int) (pg_sub (pv 0) de_int set_list)) (dss_one (ds_ret (de_call0 (r__law_mixed X G c) (hr.mono (by decide)) rfl (g__law_mixed X G c) (kk__law_mixed c) (da_cons (de_ixV 0 (pv 0) de_int) (da_cons (de_ixV 0 (pv 0) de_int) (da_cons (de_var 1 (pv 1)) da_nil)))))))) dss_nil) (dss_cons (ds_if (dt_cmp op_ge (od_cmp _) (de_ixV 0 (pv 0) de_int) (de_blt call_len_seq cd_len rfl (n_len X G c) bt_len (da_cons (de_ixV 0 (pv 0) de_int) da_nil)) (nobehind _ (by decide) (by decide))) (dss_one (ds_ret de_int)) dss_nil) (dss_cons (ds_set (i := 3) nd_law_draw rfl (by first | exact Or.inl rfl | exact Or.inr rfl) (de_ix ix_seq od_ix (de_ixV 0 (pv 0) de_int) (de_ixV 0 (pv 0) de_int))) (dss_cons (ds_setIx 0 (pv 0) de_int (de_op op_addA od_add (de_ixV 0 (pv 0) de_int) de_int) (pg_sub (pv 0) de_int set_list)) (dss_cons (ds_if (dt_cmp op_ge (od_cmp _) (de_var 3 (pv 3)) (de_op op_pow od_pow de_int de_int) (nobehind _ (by decide) (by decide))) (dss_cons (ds_setIx 0 (pv 0) de_int (de_op op_fdiv od_div (de_var 3 (pv 3)) (de_var 1 (pv 1))) (pg_sub (pv 0) de_int set_list)) (dss_one (ds_ret (de_op op_mod od_mod (de_ty call_int1 cd_int rfl (n_int X G c) bt_int (da_cons (de_var 3 (pv 3)) da_nil)) (de_var 1 (pv 1)))))) dss_nil) (dss_cons (ds_setIx 0 (pv 0) de_int (de_var 3 (pv 3)) (pg_sub (pv 0) de_int set_list)) (dss_cons (ds_setIx 0 (pv 0) de_int de_int (pg_sub (pv 0) de_int set_list)) (dss_cons (ds_setIx 0 (pv 0) de_int (de_op op_addA od_add (de_ixV 0 (pv 0) de_int) de_int) (pg_sub (pv 0) de_int set_list)) (dss_one (ds_ret (de_call0 (r__law_mixed X G c) (hr.mono (by decide)) rfl (g__law_mixed X G c) (kk__law_mixed c) (da_cons (de_var 3 (pv 3)) (da_cons (de_ixV 0 (pv 0) de_int) (da_cons (de_var 1 (pv 1)) da_nil))))))))))))))))
  exact ⟨fd, F, O⟩
theorem r__law_draw (X : K.In h) (G : h.Ns mainGlobals mg) (c : SaysE fa fn ts er w K) : FnR Pg w K mg base CX0 2 (ga K "_law_draw") (sp0 K mg f__law_draw) := by
  obtain ⟨fd, F, O⟩ := o__law_draw (base := base) X G c
  exact FnR.all O (F.bindsN fun _ _ _ _ _ _ us hl => match us, hl with | [_, _], _ => rfl)
/-! ### _law_clauses -/
abbrev N__law_clauses : List Str := ["state", "names", "many", "deep", "found", "k", "clause", "j"]
theorem nd_law_clauses : (N__law_clauses).Nodup := by decide
theorem sc_law_clauses : FnScope N__law_clauses ["state", "names", "many", "deep"] (defScope s32) := ⟨rfl, rfl, rfl, nd_law_clauses, rfl, by decide +kernel, by decide +kernel⟩
noncomputable def b__law_clauses : EM Fl := (sSeq (sAsgO 4 (oLst aNil)) (sSeq (sFor (.nm 5) (iRg1 (aCons (e2 gAdd (EM.ret (.int 1)) (eCallIO 0 f__law_draw (aCons (eVar 2) aNil))) aNil)) (sSeq (sAsgO 6 (oLst aNil)) (sSeq (sFor (.nm 7) (iRg1 (aCons (e2 gAdd (EM.ret (.int 1)) (eCallIO 0 f__law_draw (aCons (EM.ret (.int 3)) aNil))) aNil)) (sApp 6 (aCons (eTup (aCons (eIxV 1 (eCallIO 0 f__law_draw (aCons (eLenV 1) aNil))) (aCons (e2 gMul (eCallIO 0 f__law_draw (aCons (EM.ret (.int 2)) aNil)) (eCallIO 0 f__law_draw (aCons (e2 gAdd (eVar 3) (EM.ret (.int 1))) aNil))) aNil))) aNil))) (sApp 4 (aCons (eVar 6) aNil))))) (sRet (eVar 4))))
noncomputable def f__law_clauses : EM D := fOf 4 8 b__law_clauses
theorem o__law_clauses (X : K.In h) (G : h.Ns mainGlobals mg) (c : SaysE fa fn ts er w K) : ∃ fd, FunD K "_law_clauses" "_law_clauses" (defArgs s32) (defBody s32) (defScope s32) [] [] (ga K "_law_clauses") fd ∧ FnOk Pg w K mg base CX0 3 (ga K "_law_clauses") fd ["state", "names", "many", "deep"] (sp0 K mg f__law_clauses) := by
  obtain ⟨fd, F⟩ := c.def_ 32 (d := d32) rfl
  have F : FunD K "_law_clauses" "_law_clauses" (defArgs s32) (defBody s32) (defScope s32) [] [] (ga K "_law_clauses") fd := F
  have O : FnOk Pg w K mg base CX0 (2 + 1) (ga K "_law_clauses") fd ["state", "names", "many", "deep"] (sp0 K mg (fOf (List.length ["state", "names", "many", "deep"]) N__law_clauses.length b__law_clauses)) := fn0 (k := 2) (N := N__law_clauses) (ps := ["state", "names", "many", "deep"]) (b := b__law_clauses) F sc_law_clauses (fun cdv A outer s H E hr => (dss_cons (ds_setO (i := 4) nd_law_clauses rfl (by first | exact Or.inl rfl | exact Or.inr rfl) (do_lst da_nil)) (dss_cons (ds_for PassesOwn.never rfl (di_rg1 rfl (n_range X G c) (da_cons (de_op op_addA od_add de_int (de_callIO 0 (r__law_draw X G c) (hr.mono (by decide)) rfl (g__law_draw X G c) (kk__law_draw c) (pv 0) (da_cons (de_var 2 (pv 2)) da_nil))) da_nil)) (dg_nm (pg_name (i := 5) nd_law_clauses rfl (by first | exact Or.inl rfl | exact Or.inr rfl))) (dss_cons (ds_setO (i := 6) nd_law_clauses rfl (by first | exact Or.inl rfl | exact Or.inr rfl) (do_lst da_nil)) (dss_cons (ds_for PassesOwn.never rfl (di_rg1 rfl (n_range X G c) (da_cons (de_op op_addA od_add de_int (de_callIO 0 (r__law_draw X G c) (hr.mono (by decide)) rfl (g__law_draw X G c) (kk__law_draw c) (pv 0) (da_cons de_int da_nil))) da_nil)) (dg_nm (pg_name (i := 7) nd_law_clauses rfl (by first | exact Or.inl rfl | exact Or.inr rfl))) (dss_one (ds_app 6 (pv 6) (da_cons (de_tup (da_cons (de_ixV 1 (pv 1) (de_callIO 0 (r__law_draw X G c) (hr.mono (by decide)) rfl (g__law_draw X G c) (kk__law_draw c) (pv 0) (da_cons (de_lenV 1 rfl (n_len X G c) bt_len (pv 1)) da_nil))) (da_cons (de_op op_mul od_mul (de_callIO 0 (r__law_draw X G c) (hr.mono (by decide)) rfl (g__law_draw X G c) (kk__law_draw c) (pv 0) (da_cons de_int da_nil)) (de_callIO 0 (r__law_draw X G c) (hr.mono (by decide)) rfl (g__law_draw X G c) (kk__law_draw c) (pv 0) (da_cons (de_op op_addA od_add (de_var 3 (pv 3)) de_int) da_nil))) da_nil))) da_nil)))) (dss_one (ds_app 4 (pv 4) (da_cons (de_var 6 (pv 6)) da_nil)))))) (dss_one (ds_ret (de_var 4 (pv 4)))))))
  exact ⟨fd, F, O⟩
theorem r__law_clauses (X : K.In h) (G : h.Ns mainGlobals mg) (c : SaysE fa fn ts er w K) : FnR Pg w K mg base CX0 3 (ga K "_law_clauses") (sp0 K mg f__law_clauses) := by
  obtain ⟨fd, F, O⟩ := o__law_clauses (base := base) X G c
  exact FnR.all O (F.bindsN fun _ _ _ _ _ _ us hl => match us, hl with | [_, _, _, _], _ => rfl)
/-! ### _law_bound -/
abbrev N__law_bound : List Str := ["state", "limit"]
theorem nd_law_bound : (N__law_bound).Nodup := by decide
theorem sc_law_bound : FnScope N__law_bound ["state", "limit"] (defScope s33) := ⟨rfl, rfl, rfl, nd_law_bound, rfl, by decide +kernel, by decide +kernel⟩
noncomputable def b__law_bound : EM Fl := (sSeq (sIf (t2 gEq (eCallIO 0 f__law_draw (aCons (EM.ret (.int 3)) aNil)) (EM.ret (.int 0))) (sRet (EM.ret .non)) sNil) (sRet (eCallIO 0 f__law_draw (aCons (e2 gAdd (eVar 1) (EM.ret (.int 1))) aNil))))
noncomputable def f__law_bound : EM D := fOf 2 2 b__law_bound
theorem o__law_bound (X : K.In h) (G : h.Ns mainGlobals mg) (c : SaysE fa fn ts er w K) : ∃ fd, FunD K "_law_bound" "_law_bound" (defArgs s33) (defBody s33) (defScope s33) [] [] (ga K "_law_bound") fd ∧ FnOk Pg w K mg base CX0 3 (ga K "_law_bound") fd ["state", "limit"] (sp0 K mg f__law_bound) := by
  obtain ⟨fd, F⟩ := c.def_ 33 (d := d33) rfl
  have F : FunD K "_law_bound" "_law_bound" (defArgs s33) (defBody s33) (defScope s33) [] [] (ga K "_law_bound") fd := F
  have O : FnOk Pg w K mg base CX0 (2 + 1) (ga K "_law_bound") fd ["state", "limit"] (sp0 K mg (fOf (List.length ["state", "limit"]) N__law_bound.length b__law_bound)) := fn0 (k := 2) (N := N__law_bound) (ps := ["state", "limit"]) (b := b__law_bound) F sc_law_bound (fun cdv A outer s H E hr => (dss_cons (ds_if (dt_cmp (op_eqA hr.units) od_eq (de_callIO 0 (r__law_draw X G c) (hr.mono (by decide)) rfl (g__law_draw X G c) (kk__law_draw c) (pv 0) (da_cons de_int da_nil)) de_int (nobehind _ (by decide) (by decide))) (dss_one (ds_ret de_non)) dss_nil) (dss_one (ds_ret (de_callIO 0 (r__law_draw X G c) (hr.mono (by decide)) rfl (g__law_draw X G c) (kk__law_draw c) (pv 0) (da_cons (de_op op_addA od_add (de_var 1 (pv 1)) de_int) da_nil))))))
  exact ⟨fd, F, O⟩
theorem r__law_bound (X : K.In h) (G : h.Ns mainGlobals mg) (c : SaysE fa fn ts er w K) : FnR Pg w K mg base CX0 3 (ga K "_law_bound") (sp0 K mg f__law_bound) := by
  obtain ⟨fd, F, O⟩ := o__law_bound (base := base) X G c
  exact FnR.all O (F.bindsN fun _ _ _ _ _ _ us hl => match us, hl with | [_, _], _ => rfl)
/-! ### _law_under -/
abbrev N__law_under : List Str := ["lower", "upper", "chain", "other"]
theorem nd_law_under : (N__law_under).Nodup := by decide
theorem sc_law_under : FnScope N__law_under ["lower", "upper"] (defScope s34) := ⟨rfl, rfl, rfl, nd_law_under, rfl, by decide +kernel, by decide +kernel⟩
noncomputable def b__law_under : EM Fl := (sSeq (sAsgO 2 (oLst (aCons (EM.ret (.str "zero")) (aCons (EM.ret (.str "calm")) (aCons (EM.ret (.str "owed")) (aCons (EM.ret (.str "done")) (aCons (EM.ret (.str "end")) aNil))))))) (sSeq (sAsgO 3 (oLst (aCons (EM.ret (.str "zero")) (aCons (EM.ret (.str "own")) (aCons (EM.ret (.str "got")) (aCons (EM.ret (.str "end")) aNil)))))) (sSeq (sIf (tAnd' (t2 gIn (eVar 0) (eVar 2)) (t2 gIn (eVar 1) (eVar 2))) (sRet (e2 (gB gLe) (eIdxL (eVar 2) (eVar 0)) (eIdxL (eVar 2) (eVar 1)))) sNil) (sSeq (sIf (tAnd' (t2 gIn (eVar 0) (eVar 3)) (t2 gIn (eVar 1) (eVar 3))) (sRet (e2 (gB gLe) (eIdxL (eVar 3) (eVar 0)) (eIdxL (eVar 3) (eVar 1)))) sNil) (sRet (EM.ret (.bl false)))))))
noncomputable def f__law_under : EM D := fOf 2 4 b__law_under
theorem o__law_under (X : K.In h) (G : h.Ns mainGlobals mg) (c : SaysE fa fn ts er w K) : ∃ fd, FunD K "_law_under" "_law_under" (defArgs s34) (defBody s34) (defScope s34) [] [] (ga K "_law_under") fd ∧ FnOk Pg w K mg base CX0 1 (ga K "_law_under") fd ["lower", "upper"] (sp0 K mg f__law_under) := by
  obtain ⟨fd, F⟩ := c.def_ 34 (d := d34) rfl
  have F : FunD K "_law_under" "_law_under" (defArgs s34) (defBody s34) (defScope s34) [] [] (ga K "_law_under") fd := F
  have O : FnOk Pg w K mg base CX0 (0 + 1) (ga K "_law_under") fd ["lower", "upper"] (sp0 K mg (fOf (List.length ["lower", "upper"]) N__law_under.length b__law_under)) := fn0 (k := 0) (N := N__law_under) (ps := ["lower", "upper"]) (b := b__law_under) F sc_law_under (fun cdv A outer s H E hr => (dss_cons (ds_setO (i := 2) nd_law_under rfl (by first | exact Or.inl rfl | exact Or.inr rfl) (do_lst (da_cons de_str (da_cons de_str (da_cons de_str (da_cons de_str (da_cons de_str da_nil))))))) (dss_cons (ds_setO (i := 3) nd_law_under rfl (by first | exact Or.inl rfl | exact Or.inr rfl) (do_lst (da_cons de_str (da_cons de_str (da_cons de_str (da_cons de_str da_nil)))))) (dss_cons (ds_if (PW.pt (dw_and (dt_cmp op_in_seq od_in (de_var 0 (pv 0)) (de_var 2 (pv 2)) rfl) (dw_and1 (dt_cmp op_in_seq od_in (de_var 1 (pv 1)) (de_var 2 (pv 2)) rfl)))) (dss_one (ds_ret (de_cmp op_le (od_cmp _) (de_idxL (de_var 2 (pv 2)) (de_var 0 (pv 0))) (de_idxL (de_var 2 (pv 2)) (de_var 1 (pv 1))) (nobehind _ (by decide) (by decide))))) dss_nil) (dss_cons (ds_if (PW.pt (dw_and (dt_cmp op_in_seq od_in (de_var 0 (pv 0)) (de_var 3 (pv 3)) rfl) (dw_and1 (dt_cmp op_in_seq od_in (de_var 1 (pv 1)) (de_var 3 (pv 3)) rfl)))) (dss_one (ds_ret (de_cmp op_le (od_cmp _) (de_idxL (de_var 3 (pv 3)) (de_var 0 (pv 0))) (de_idxL (de_var 3 (pv 3)) (de_var 1 (pv 1))) (nobehind _ (by decide) (by decide))))) dss_nil) (dss_one (ds_ret de_bl)))))))
  exact ⟨fd, F, O⟩
theorem r__law_under (X : K.In h) (G : h.Ns mainGlobals mg) (c : SaysE fa fn ts er w K) : FnR Pg w K mg base CX0 1 (ga K "_law_under") (sp0 K mg f__law_under) := by
  obtain ⟨fd, F, O⟩ := o__law_under (base := base) X G c
  exact FnR.all O (F.bindsN fun _ _ _ _ _ _ us hl => match us, hl with | [_, _], _ => rfl)
/-! ### _law_gap -/
abbrev N__law_gap : List Str := ["upper", "lower", "late", "far"]
theorem nd_law_gap : (N__law_gap).Nodup := by decide
theorem sc_law_gap : FnScope N__law_gap ["upper", "lower", "late", "far"] (defScope s35) := ⟨rfl, rfl, rfl, nd_law_gap, rfl, by decide +kernel, by decide +kernel⟩
noncomputable def b__law_gap : EM Fl := (sSeq (sIf ((eCall0 f__law_under (aCons (eVar 0) (aCons (eVar 1) aNil))).bind toB) (sRet (EM.ret (.int 0))) sNil) (sSeq (sIf (t2 gEq (eVar 1) (EM.ret (.str "done"))) (sRet (eVar 2)) sNil) (sSeq (sIf (tAnd' (t2 gEq (eVar 1) (EM.ret (.str "owed"))) (t2 gEq (eVar 0) (EM.ret (.str "done")))) (sRet (eVar 3)) sNil) (sSeq (sIf (tAnd' (t2 gEq (eVar 1) (EM.ret (.str "owed"))) (tAnd' ((eVar 2).bind fun d => EM.ret (!isN d)) ((eVar 3).bind fun d => EM.ret (!isN d)))) (sRet (e2 gAdd (eVar 2) (eVar 3))) sNil) (sRet (EM.ret .non))))))
noncomputable def f__law_gap : EM D := fOf 4 4 b__law_gap
theorem o__law_gap (X : K.In h) (G : h.Ns mainGlobals mg) (c : SaysE fa fn ts er w K) : ∃ fd, FunD K "_law_gap" "_law_gap" (defArgs s35) (defBody s35) (defScope s35) [] [] (ga K "_law_gap") fd ∧ FnOk Pg w K mg base CX0 2 (ga K "_law_gap") fd ["upper", "lower", "late", "far"] (sp0 K mg f__law_gap) := by
  obtain ⟨fd, F⟩ := c.def_ 35 (d := d35) rfl
  have F : FunD K "_law_gap" "_law_gap" (defArgs s35) (defBody s35) (defScope s35) [] [] (ga K "_law_gap") fd := F
  have O : FnOk Pg w K mg base CX0 (1 + 1) (ga K "_law_gap") fd ["upper", "lower", "late", "far"] (sp0 K mg (fOf (List.length ["upper", "lower", "late", "far"]) N__law_gap.length b__law_gap)) := fn0 (k := 1) (N := N__law_gap) (ps := ["upper", "lower", "late", "far"]) (b := b__law_gap) F sc_law_gap (fun cdv A outer s H E hr => (dss_cons (ds_if (dt_val (de_call0 (r__law_under X G c) (hr.mono (by decide)) rfl (g__law_under X G c) (kk__law_under c) (da_cons (de_var 0 (pv 0)) (da_cons (de_var 1 (pv 1)) da_nil)))) (dss_one (ds_ret de_int)) dss_nil) (dss_cons (ds_if (dt_cmp (op_eqA hr.units) od_eq (de_var 1 (pv 1)) de_str (nobehind _ (by decide) (by decide))) (dss_one (ds_ret (de_var 2 (pv 2)))) dss_nil) (dss_cons (ds_if (PW.pt (dw_and (dt_cmp (op_eqA hr.units) od_eq (de_var 1 (pv 1)) de_str (nobehind _ (by decide) (by decide))) (dw_and1 (dt_cmp (op_eqA hr.units) od_eq (de_var 0 (pv 0)) de_str (nobehind _ (by decide) (by decide)))))) (dss_one (ds_ret (de_var 3 (pv 3)))) dss_nil) (dss_cons (ds_if (PW.pt (dw_and (dt_cmp (op_eqA hr.units) od_eq (de_var 1 (pv 1)) de_str (nobehind _ (by decide) (by decide))) (dw_and (dt_notN (de_var 2 (pv 2))) (dw_and1 (dt_notN (de_var 3 (pv 3))))))) (dss_one (ds_ret (de_op op_addA od_add (de_var 2 (pv 2)) (de_var 3 (pv 3))))) dss_nil) (dss_one (ds_ret de_non)))))))
  exact ⟨fd, F, O⟩
theorem r__law_gap (X : K.In h) (G : h.Ns mainGlobals mg) (c : SaysE fa fn ts er w K) : FnR Pg w K mg base CX0 2 (ga K "_law_gap") (sp0 K mg f__law_gap) := by
  obtain ⟨fd, F, O⟩ := o__law_gap (base := base) X G c
  exact FnR.all O (F.bindsN fun _ _ _ _ _ _ us hl => match us, hl with | [_, _, _, _], _ => rfl)
/-! ### _law_term_below -/
abbrev N__law_term_below : List Str := ["low", "high", "late", "far", "gap"]
theorem nd_law_term_below : (N__law_term_below).Nodup := by decide
theorem sc_law_term_below : FnScope N__law_term_below ["low", "high", "late", "far"] (defScope s36) := ⟨rfl, rfl, rfl, nd_law_term_below, rfl, by decide +kernel, by decide +kernel⟩
noncomputable def b__law_term_below : EM Fl := (sSeq (sIf (t2 gEq (eIxV 0 (EM.ret (.int 0))) (EM.ret (.str "zero"))) (sRet (EM.ret (.bl true))) sNil) (sSeq (sAsg 4 (eCall0 f__law_gap (aCons (eIxV 0 (EM.ret (.int 0))) (aCons (eIxV 1 (EM.ret (.int 0))) (aCons (eVar 2) (aCons (eVar 3) aNil)))))) (sRet (eAnd ((eVar 4).bind fun d => EM.ret (.bl (!isN d))) (e2 (gB gLe) (eVar 4) (e2 gSub (eIxV 0 (EM.ret (.int 1))) (eIxV 1 (EM.ret (.int 1)))))))))
noncomputable def f__law_term_below : EM D := fOf 4 5 b__law_term_below
theorem o__law_term_below (X : K.In h) (G : h.Ns mainGlobals mg) (c : SaysE fa fn ts er w K) : ∃ fd, FunD K "_law_term_below" "_law_term_below" (defArgs s36) (defBody s36) (defScope s36) [] [] (ga K "_law_term_below") fd ∧ FnOk Pg w K mg base CX0 3 (ga K "_law_term_below") fd ["low", "high", "late", "far"] (sp0 K mg f__law_term_below) := by
  obtain ⟨fd, F⟩ := c.def_ 36 (d := d36) rfl
  have F : FunD K "_law_term_below" "_law_term_below" (defArgs s36) (defBody s36) (defScope s36) [] [] (ga K "_law_term_below") fd := F
  have O : FnOk Pg w K mg base CX0 (2 + 1) (ga K "_law_term_below") fd ["low", "high", "late", "far"] (sp0 K mg (fOf (List.length ["low", "high", "late", "far"]) N__law_term_below.length b__law_term_below)) := fn0 (k := 2) (N := N__law_term_below) (ps := ["low", "high", "late", "far"]) (b := b__law_term_below) F sc_law_term_below (fun cdv A outer s H E hr => (dss_cons (ds_if (dt_cmp (op_eqA hr.units) od_eq (de_ixV 0 (pv 0) de_int) de_str (nobehind _ (by decide) (by decide))) (dss_one (ds_ret de_bl)) dss_nil) (dss_cons (ds_set (i := 4) nd_law_term_below rfl (by first | exact Or.inl rfl | exact Or.inr rfl) (de_call0 (r__law_gap X G c) (hr.mono (by decide)) rfl (g__law_gap X G c) (kk__law_gap c) (da_cons (de_ixV 0 (pv 0) de_int) (da_cons (de_ixV 1 (pv 1) de_int) (da_cons (de_var 2 (pv 2)) (da_cons (de_var 3 (pv 3)) da_nil)))))) (dss_one (ds_ret (de_and (de_notN (de_var 4 (pv 4))) (de_one (de_cmp op_le (od_cmp _) (de_var 4 (pv 4)) (de_op op_sub od_sub (de_ixV 0 (pv 0) de_int) (de_ixV 1 (pv 1) de_int)) (nobehind _ (by decide) (by decide))))))))))
  exact ⟨fd, F, O⟩
theorem r__law_term_below (X : K.In h) (G : h.Ns mainGlobals mg) (c : SaysE fa fn ts er w K) : FnR Pg w K mg base CX0 3 (ga K "_law_term_below") (sp0 K mg f__law_term_below) := by
  obtain ⟨fd, F, O⟩ := o__law_term_below (base := base) X G c
  exact FnR.all O (F.bindsN fun _ _ _ _ _ _ us hl => match us, hl with | [_, _, _, _], _ => rfl)
/-! ### _law_clause_below -/
abbrev N__law_clause_below : List Str := ["low", "high", "late", "far", "term", "good", "other"]
theorem nd_law_clause_below : (N__law_clause_below).Nodup := by decide
theorem sc_law_clause_below : FnScope N__law_clause_below ["low", "high", "late", "far"] (defScope s37) := ⟨rfl, rfl, rfl, nd_law_clause_below, rfl, by decide +kernel, by decide +kernel⟩
noncomputable def b__law_clause_below : EM Fl := (sSeq (sFor (.nm 4) (iSeq (eVar 1)) (sSeq (sAsgO 5 (oComp (.nm 6) ((eCall0 f__law_term_below (aCons (eVar 6) (aCons (eVar 4) (aCons (eVar 2) (aCons (eVar 3) aNil))))).bind toB) (eVar 6) [6] (iVar 0))) (sIf (t2 gEq (eLenV 5) (EM.ret (.int 0))) (sRet (EM.ret (.bl false))) sNil))) (sRet (EM.ret (.bl true))))
noncomputable def f__law_clause_below : EM D := fOf 4 7 b__law_clause_below
theorem o__law_clause_below (X : K.In h) (G : h.Ns mainGlobals mg) (c : SaysE fa fn ts er w K) : ∃ fd, FunD K "_law_clause_below" "_law_clause_below" (defArgs s37) (defBody s37) (defScope s37) [] [] (ga K "_law_clause_below") fd ∧ FnOk Pg w K mg base CX0 4 (ga K "_law_clause_below") fd ["low", "high", "late", "far"] (sp0 K mg f__law_clause_below) := by
  obtain ⟨fd, F⟩ := c.def_ 37 (d := d37) rfl
  have F : FunD K "_law_clause_below" "_law_clause_below" (defArgs s37) (defBody s37) (defScope s37) [] [] (ga K "_law_clause_below") fd := F
  have O : FnOk Pg w K mg base CX0 (3 + 1) (ga K "_law_clause_below") fd ["low", "high", "late", "far"] (sp0 K mg (fOf (List.length ["low", "high", "late", "far"]) N__law_clause_below.length b__law_clause_below)) := fn0 (k := 3) (N := N__law_clause_below) (ps := ["low", "high", "late", "far"]) (b := b__law_clause_below) F sc_law_clause_below (fun cdv A outer s H E hr => (dss_cons (ds_for PassesOwn.never rfl (di_seq (de_var 1 (pv 1))) (dg_nm (pg_name (i := 4) nd_law_clause_below rfl (by first | exact Or.inl rfl | exact Or.inr rfl))) (dss_cons (ds_setLc (own := [("other", 6)]) 5 (by rfl) nd_law_clause_below rfl rfl (sw_true rfl rfl rfl (by decide +kernel)) (di_var 0 (pv 0)) (blkOk_by (N := N__law_clause_below) (sc := defScope s37) (own := [("other", 6)]) (by decide +kernel)) (fun _ _ _ _ _ => (dg_nm (pg_name (i := 6) nd_law_clause_below rfl (by first | exact Or.inl rfl | exact Or.inr rfl)))) (fun _ _ _ _ _ => (dts_one (dt_val (de_call0 (r__law_term_below X G c) (hr.mono (by decide)) rfl (g__law_term_below X G c) (kk__law_term_below c) (da_cons (de_var 6 (pv 6)) (da_cons (de_var 4 (pv 4)) (da_cons (de_var 2 (pv 2)) (da_cons (de_var 3 (pv 3)) da_nil)))))))) (fun _ _ _ _ _ => (de_var 6 (pv 6))) (by decide)) (dss_one (ds_if (dt_cmp (op_eqA hr.units) od_eq (de_lenV 5 rfl (n_len X G c) bt_len (pv 5)) de_int (nobehind _ (by decide) (by decide))) (dss_one (ds_ret de_bl)) dss_nil)))) (dss_one (ds_ret de_bl))))
  exact ⟨fd, F, O⟩
theorem r__law_clause_below (X : K.In h) (G : h.Ns mainGlobals mg) (c : SaysE fa fn ts er w K) : FnR Pg w K mg base CX0 4 (ga K "_law_clause_below") (sp0 K mg f__law_clause_below) := by
  obtain ⟨fd, F, O⟩ := o__law_clause_below (base := base) X G c
  exact FnR.all O (F.bindsN fun _ _ _ _ _ _ us hl => match us, hl with | [_, _, _, _], _ => rfl)
/-! ### _law_rule_below -/
abbrev N__law_rule_below : List Str := ["low", "high", "late", "far", "clause", "good", "other"]
theorem nd_law_rule_below : (N__law_rule_below).Nodup := by decide
theorem sc_law_rule_below : FnScope N__law_rule_below ["low", "high", "late", "far"] (defScope s38) := ⟨rfl, rfl, rfl, nd_law_rule_below, rfl, by decide +kernel, by decide +kernel⟩
noncomputable def b__law_rule_below : EM Fl := (sSeq (sFor (.nm 4) (iSeq (eVar 0)) (sSeq (sAsgO 5 (oComp (.nm 6) ((eCall0 f__law_clause_below (aCons (eVar 4) (aCons (eVar 6) (aCons (eVar 2) (aCons (eVar 3) aNil))))).bind toB) (eVar 6) [6] (iVar 1))) (sIf (t2 gEq (eLenV 5) (EM.ret (.int 0))) (sRet (EM.ret (.bl false))) sNil))) (sRet (EM.ret (.bl true))))
noncomputable def f__law_rule_below : EM D := fOf 4 7 b__law_rule_below
theorem o__law_rule_below (X : K.In h) (G : h.Ns mainGlobals mg) (c : SaysE fa fn ts er w K) : ∃ fd, FunD K "_law_rule_below" "_law_rule_below" (defArgs s38) (defBody s38) (defScope s38) [] [] (ga K "_law_rule_below") fd ∧ FnOk Pg w K mg base CX0 5 (ga K "_law_rule_below") fd ["low", "high", "late", "far"] (sp0 K mg f__law_rule_below) := by
  obtain ⟨fd, F⟩ := c.def_ 38 (d := d38) rfl
  have F : FunD K "_law_rule_below" "_law_rule_below" (defArgs s38) (defBody s38) (defScope s38) [] [] (ga K "_law_rule_below") fd := F
  have O : FnOk Pg w K mg base CX0 (4 + 1) (ga K "_law_rule_below") fd ["low", "high", "late", "far"] (sp0 K mg (fOf (List.length ["low", "high", "late", "far"]) N__law_rule_below.length b__law_rule_below)) := fn0 (k := 4) (N := N__law_rule_below) (ps := ["low", "high", "late", "far"]) (b := b__law_rule_below) F sc_law_rule_below (fun cdv A outer s H E hr => (dss_cons (ds_for PassesOwn.never rfl (di_seq (de_var 0 (pv 0))) (dg_nm (pg_name (i := 4) nd_law_rule_below rfl (by first | exact Or.inl rfl | exact Or.inr rfl))) (dss_cons (ds_setLc (own := [("other", 6)]) 5 (by rfl) nd_law_rule_below rfl rfl (sw_true rfl rfl rfl (by decide +kernel)) (di_var 1 (pv 1)) (blkOk_by (N := N__law_rule_below) (sc := defScope s38) (own := [("other", 6)]) (by decide +kernel)) (fun _ _ _ _ _ => (dg_nm (pg_name (i := 6) nd_law_rule_below rfl (by first | exact Or.inl rfl | exact Or.inr rfl)))) (fun _ _ _ _ _ => (dts_one (dt_val (de_call0 (r__law_clause_below X G c) (hr.mono (by decide)) rfl (g__law_clause_below X G c) (kk__law_clause_below c) (da_cons (de_var 4 (pv 4)) (da_cons (de_var 6 (pv 6)) (da_cons (de_var 2 (pv 2)) (da_cons (de_var 3 (pv 3)) da_nil)))))))) (fun _ _ _ _ _ => (de_var 6 (pv 6))) (by decide)) (dss_one (ds_if (dt_cmp (op_eqA hr.units) od_eq (de_lenV 5 rfl (n_len X G c) bt_len (pv 5)) de_int (nobehind _ (by decide) (by decide))) (dss_one (ds_ret de_bl)) dss_nil)))) (dss_one (ds_ret de_bl))))
  exact ⟨fd, F, O⟩
theorem r__law_rule_below (X : K.In h) (G : h.Ns mainGlobals mg) (c : SaysE fa fn ts er w K) : FnR Pg w K mg base CX0 5 (ga K "_law_rule_below") (sp0 K mg f__law_rule_below) := by
  obtain ⟨fd, F, O⟩ := o__law_rule_below (base := base) X G c
  exact FnR.all O (F.bindsN fun _ _ _ _ _ _ us hl => match us, hl with | [_, _, _, _], _ => rfl)
/-! ### _law_length -/
abbrev N__law_length : List Str := ["clauses", "lag", "found", "clause", "best", "bounded", "term"]
theorem nd_law_length : (N__law_length).Nodup := by decide
theorem sc_law_length : FnScope N__law_length ["clauses", "lag"] (defScope s39) := ⟨rfl, rfl, rfl, nd_law_length, rfl, by decide +kernel, by decide +kernel⟩
noncomputable def b__law_length : EM Fl := (sSeq (sAsg 2 (EM.ret .non)) (sSeq (sFor (.nm 3) (iSeq (eVar 0)) (sSeq (sAsg 4 (e2 gSub (EM.ret (.int 0)) (EM.ret (.int 1)))) (sSeq (sAsg 5 (EM.ret (.bl true))) (sSeq (sFor (.nm 6) (iSeq (eVar 3)) (sSeq (sIf (tAnd' (t2 gNe (eIxV 6 (EM.ret (.int 0))) (EM.ret (.str "done"))) (t2 gNe (eIxV 6 (EM.ret (.int 0))) (EM.ret (.str "end")))) (sAsg 5 (EM.ret (.bl false))) sNil) (sSeq (sIf (tAnd' (t2 gEq (eIxV 6 (EM.ret (.int 0))) (EM.ret (.str "done"))) (t2 gGt (eIxV 6 (EM.ret (.int 1))) (eVar 4))) (sAsg 4 (eIxV 6 (EM.ret (.int 1)))) sNil) (sIf (tAnd' (t2 gEq (eIxV 6 (EM.ret (.int 0))) (EM.ret (.str "end"))) (tAnd' ((eVar 1).bind fun d => EM.ret (!isN d)) (t2 gGt (e2 gSub (eIxV 6 (EM.ret (.int 1))) (eVar 1)) (eVar 4)))) (sAsg 4 (e2 gSub (eIxV 6 (EM.ret (.int 1))) (eVar 1))) sNil)))) (sIf (tAnd' ((eVar 5).bind toB) (tOr' ((eVar 2).bind fun d => EM.ret (isN d)) (t2 gLt (eVar 4) (eVar 2)))) (sAsg 2 (eVar 4)) sNil))))) (sRet (eVar 2))))
noncomputable def f__law_length : EM D := fOf 2 7 b__law_length
theorem o__law_length (X : K.In h) (G : h.Ns mainGlobals mg) (c : SaysE fa fn ts er w K) : ∃ fd, FunD K "_law_length" "_law_length" (defArgs s39) (defBody s39) (defScope s39) [] [] (ga K "_law_length") fd ∧ FnOk Pg w K mg base CX0 1 (ga K "_law_length") fd ["clauses", "lag"] (sp0 K mg f__law_length) := by
  obtain ⟨fd, F⟩ := c.def_ 39 (d := d39) rfl
  have F : FunD K "_law_length" "_law_length" (defArgs s39) (defBody s39) (defScope s39) [] [] (ga K "_law_length") fd := F
  have O : FnOk Pg w K mg base CX0 (0 + 1) (ga K "_law_length") fd ["clauses", "lag"] (sp0 K mg (fOf (List.length ["clauses", "lag"]) N__law_length.length b__law_length)) := fn0 (k := 0) (N := N__law_length) (ps := ["clauses", "lag"]) (b := b__law_length) F sc_law_length (fun cdv A outer s H E hr => (dss_cons (ds_set (i := 2) nd_law_length rfl (by first | exact Or.inl rfl | exact Or.inr rfl) de_non) (dss_cons (ds_for PassesOwn.never rfl (di_seq (de_var 0 (pv 0))) (dg_nm (pg_name (i := 3) nd_law_length rfl (by first | exact Or.inl rfl | exact Or.inr rfl))) (dss_cons (ds_set (i := 4) nd_law_length rfl (by first | exact Or.inl rfl | exact Or.inr rfl) (de_op op_sub od_sub de_int de_int)) (dss_cons (ds_set (i := 5) nd_law_length rfl (by first | exact Or.inl rfl | exact Or.inr rfl) de_bl) (dss_cons (ds_for PassesOwn.never rfl (di_seq (de_var 3 (pv 3))) (dg_nm (pg_name (i := 6) nd_law_length rfl (by first | exact Or.inl rfl | exact Or.inr rfl))) (dss_cons (ds_if (PW.pt (dw_and (dt_cmp (op_neA hr.units) od_ne (de_ixV 6 (pv 6) de_int) de_str (nobehind _ (by decide) (by decide))) (dw_and1 (dt_cmp (op_neA hr.units) od_ne (de_ixV 6 (pv 6) de_int) de_str (nobehind _ (by decide) (by decide)))))) (dss_one (ds_set (i := 5) nd_law_length rfl (by first | exact Or.inl rfl | exact Or.inr rfl) de_bl)) dss_nil) (dss_cons (ds_if (PW.pt (dw_and (dt_cmp (op_eqA hr.units) od_eq (de_ixV 6 (pv 6) de_int) de_str (nobehind _ (by decide) (by decide))) (dw_and1 (dt_cmp op_gt (od_cmp _) (de_ixV 6 (pv 6) de_int) (de_var 4 (pv 4)) (nobehind _ (by decide) (by decide)))))) (dss_one (ds_set (i := 4) nd_law_length rfl (by first | exact Or.inl rfl | exact Or.inr rfl) (de_ixV 6 (pv 6) de_int))) dss_nil) (dss_one (ds_if (PW.pt (dw_and (dt_cmp (op_eqA hr.units) od_eq (de_ixV 6 (pv 6) de_int) de_str (nobehind _ (by decide) (by decide))) (dw_and (dt_notN (de_var 1 (pv 1))) (dw_and1 (dt_cmp op_gt (od_cmp _) (de_op op_sub od_sub (de_ixV 6 (pv 6) de_int) (de_var 1 (pv 1))) (de_var 4 (pv 4)) (nobehind _ (by decide) (by decide))))))) (dss_one (ds_set (i := 4) nd_law_length rfl (by first | exact Or.inl rfl | exact Or.inr rfl) (de_op op_sub od_sub (de_ixV 6 (pv 6) de_int) (de_var 1 (pv 1))))) dss_nil))))) (dss_one (ds_if (PW.pt (dw_and (dt_val (de_var 5 (pv 5))) (dw_and1 (PW.pt (dw_or (dt_isN (de_var 2 (pv 2))) (dw_or1 (dt_cmp op_lt (od_cmp _) (de_var 4 (pv 4)) (de_var 2 (pv 2)) (nobehind _ (by decide) (by decide))))))))) (dss_one (ds_set (i := 2) nd_law_length rfl (by first | exact Or.inl rfl | exact Or.inr rfl) (de_var 4 (pv 4)))) dss_nil)))))) (dss_one (ds_ret (de_var 2 (pv 2)))))))
  exact ⟨fd, F, O⟩
theorem r__law_length (X : K.In h) (G : h.Ns mainGlobals mg) (c : SaysE fa fn ts er w K) : FnR Pg w K mg base CX0 1 (ga K "_law_length") (sp0 K mg f__law_length) := by
  obtain ⟨fd, F, O⟩ := o__law_length (base := base) X G c
  exact FnR.all O (F.bindsN fun _ _ _ _ _ _ us hl => match us, hl with | [_, _], _ => rfl)
/-! ### _law_frontier -/
abbrev N__law_frontier : List Str := ["clauses", "rows", "most", "step", "lag", "far"]
theorem nd_law_frontier : (N__law_frontier).Nodup := by decide
theorem sc_law_frontier : FnScope N__law_frontier ["clauses"] (defScope s40) := ⟨rfl, rfl, rfl, nd_law_frontier, rfl, by decide +kernel, by decide +kernel⟩
noncomputable def b__law_frontier : EM Fl := (sSeq (sAsgO 1 (oLst aNil)) (sSeq (sAsg 2 (e2 gSub (EM.ret (.int 0)) (EM.ret (.int 1)))) (sSeq (sFor (.nm 3) (iRg1 (aCons (EM.ret (.int 51)) aNil)) (sSeq (sAsg 4 (EM.ret .non)) (sSeq (sIf (t2 gGt (eVar 3) (EM.ret (.int 0))) (sAsg 4 (e2 gSub (EM.ret (.int 50)) (eVar 3))) sNil) (sSeq (sAsg 5 (eCall0 f__law_length (aCons (eVar 0) (aCons (eVar 4) aNil)))) (sSeq (sIf (tAnd' ((eVar 5).bind fun d => EM.ret (!isN d)) (t2 gGt (eVar 5) (EM.ret (.int 49)))) (sAsg 5 (EM.ret (.int 49))) sNil) (sIf (tAnd' ((eVar 2).bind fun d => EM.ret (!isN d)) (tOr' ((eVar 5).bind fun d => EM.ret (isN d)) (t2 gGt (eVar 5) (eVar 2)))) (sSeq (sApp 1 (aCons (eTup (aCons (eVar 4) (aCons (eVar 5) aNil))) aNil)) (sAsg 2 (eVar 5))) sNil)))))) (sRet (eVar 1)))))
noncomputable def f__law_frontier : EM D := fOf 1 6 b__law_frontier
theorem o__law_frontier (X : K.In h) (G : h.Ns mainGlobals mg) (c : SaysE fa fn ts er w K) : ∃ fd, FunD K "_law_frontier" "_law_frontier" (defArgs s40) (defBody s40) (defScope s40) [] [] (ga K "_law_frontier") fd ∧ FnOk Pg w K mg base CX0 2 (ga K "_law_frontier") fd ["clauses"] (sp0 K mg f__law_frontier) := by
  obtain ⟨fd, F⟩ := c.def_ 40 (d := d40) rfl
  have F : FunD K "_law_frontier" "_law_frontier" (defArgs s40) (defBody s40) (defScope s40) [] [] (ga K "_law_frontier") fd := F
  have O : FnOk Pg w K mg base CX0 (1 + 1) (ga K "_law_frontier") fd ["clauses"] (sp0 K mg (fOf (List.length ["clauses"]) N__law_frontier.length b__law_frontier)) := fn0 (k := 1) (N := N__law_frontier) (ps := ["clauses"]) (b := b__law_frontier) F sc_law_frontier (fun cdv A outer s H E hr => (dss_cons (ds_setO (i := 1) nd_law_frontier rfl (by first | exact Or.inl rfl | exact Or.inr rfl) (do_lst da_nil)) (dss_cons (ds_set (i := 2) nd_law_frontier rfl (by first | exact Or.inl rfl | exact Or.inr rfl) (de_op op_sub od_sub de_int de_int)) (dss_cons (ds_for PassesOwn.never rfl (di_rg1 rfl (n_range X G c) (da_cons de_int da_nil)) (dg_nm (pg_name (i := 3) nd_law_frontier rfl (by first | exact Or.inl rfl | exact Or.inr rfl))) (dss_cons (ds_set (i := 4) nd_law_frontier rfl (by first | exact Or.inl rfl | exact Or.inr rfl) de_non) (dss_cons (ds_if (dt_cmp op_gt (od_cmp _) (de_var 3 (pv 3)) de_int (nobehind _ (by decide) (by decide))) (dss_one (ds_set (i := 4) nd_law_frontier rfl (by first | exact Or.inl rfl | exact Or.inr rfl) (de_op op_sub od_sub de_int (de_var 3 (pv 3))))) dss_nil) (dss_cons (ds_set (i := 5) nd_law_frontier rfl (by first | exact Or.inl rfl | exact Or.inr rfl) (de_call0 (r__law_length X G c) (hr.mono (by decide)) rfl (g__law_length X G c) (kk__law_length c) (da_cons (de_var 0 (pv 0)) (da_cons (de_var 4 (pv 4)) da_nil)))) (dss_cons (ds_if (PW.pt (dw_and (dt_notN (de_var 5 (pv 5))) (dw_and1 (dt_cmp op_gt (od_cmp _) (de_var 5 (pv 5)) de_int (nobehind _ (by decide) (by decide)))))) (dss_one (ds_set (i := 5) nd_law_frontier rfl (by first | exact Or.inl rfl | exact Or.inr rfl) de_int)) dss_nil) (dss_one (ds_if (PW.pt (dw_and (dt_notN (de_var 2 (pv 2))) (dw_and1 (PW.pt (dw_or (dt_isN (de_var 5 (pv 5))) (dw_or1 (dt_cmp op_gt (od_cmp _) (de_var 5 (pv 5)) (de_var 2 (pv 2)) (nobehind _ (by decide) (by decide))))))))) (dss_cons (ds_app 1 (pv 1) (da_cons (de_tup (da_cons (de_var 4 (pv 4)) (da_cons (de_var 5 (pv 5)) da_nil))) da_nil)) (dss_one (ds_set (i := 2) nd_law_frontier rfl (by first | exact Or.inl rfl | exact Or.inr rfl) (de_var 5 (pv 5))))) dss_nil))))))) (dss_one (ds_ret (de_var 1 (pv 1))))))))
  exact ⟨fd, F, O⟩
theorem r__law_frontier (X : K.In h) (G : h.Ns mainGlobals mg) (c : SaysE fa fn ts er w K) : FnR Pg w K mg base CX0 2 (ga K "_law_frontier") (sp0 K mg f__law_frontier) := by
  obtain ⟨fd, F, O⟩ := o__law_frontier (base := base) X G c
  exact FnR.all O (F.bindsN fun _ _ _ _ _ _ us hl => match us, hl with | [_], _ => rfl)
/-! ### _law_next_bound -/
abbrev N__law_next_bound : List Str := ["bound"]
theorem nd_law_next_bound : (N__law_next_bound).Nodup := by decide
theorem sc_law_next_bound : FnScope N__law_next_bound ["bound"] (defScope s41) := ⟨rfl, rfl, rfl, nd_law_next_bound, rfl, by decide +kernel, by decide +kernel⟩
noncomputable def b__law_next_bound : EM Fl := (sSeq (sIf (t2 gLt (eVar 0) (EM.ret (.int 49))) (sRet (e2 gAdd (eVar 0) (EM.ret (.int 1)))) sNil) (sRet (EM.ret .non)))
noncomputable def f__law_next_bound : EM D := fOf 1 1 b__law_next_bound
theorem o__law_next_bound (X : K.In h) (G : h.Ns mainGlobals mg) (c : SaysE fa fn ts er w K) : ∃ fd, FunD K "_law_next_bound" "_law_next_bound" (defArgs s41) (defBody s41) (defScope s41) [] [] (ga K "_law_next_bound") fd ∧ FnOk Pg w K mg base CX0 1 (ga K "_law_next_bound") fd ["bound"] (sp0 K mg f__law_next_bound) := by
  obtain ⟨fd, F⟩ := c.def_ 41 (d := d41) rfl
  have F : FunD K "_law_next_bound" "_law_next_bound" (defArgs s41) (defBody s41) (defScope s41) [] [] (ga K "_law_next_bound") fd := F
  have O : FnOk Pg w K mg base CX0 (0 + 1) (ga K "_law_next_bound") fd ["bound"] (sp0 K mg (fOf (List.length ["bound"]) N__law_next_bound.length b__law_next_bound)) := fn0 (k := 0) (N := N__law_next_bound) (ps := ["bound"]) (b := b__law_next_bound) F sc_law_next_bound (fun cdv A outer s H E hr => (dss_cons (ds_if (dt_cmp op_lt (od_cmp _) (de_var 0 (pv 0)) de_int (nobehind _ (by decide) (by decide))) (dss_one (ds_ret (de_op op_addA od_add (de_var 0 (pv 0)) de_int))) dss_nil) (dss_one (ds_ret de_non))))
  exact ⟨fd, F, O⟩
theorem r__law_next_bound (X : K.In h) (G : h.Ns mainGlobals mg) (c : SaysE fa fn ts er w K) : FnR Pg w K mg base CX0 1 (ga K "_law_next_bound") (sp0 K mg f__law_next_bound) := by
  obtain ⟨fd, F, O⟩ := o__law_next_bound (base := base) X G c
  exact FnR.all O (F.bindsN fun _ _ _ _ _ _ us hl => match us, hl with | [_], _ => rfl)
/-! ### _law_greatest -/
abbrev N__law_greatest : List Str := ["rule", "worlds", "world", "k", "j"]
theorem nd_law_greatest : (N__law_greatest).Nodup := by decide
theorem sc_law_greatest : FnScope N__law_greatest ["rule", "worlds"] (defScope s42) := ⟨rfl, rfl, rfl, nd_law_greatest, rfl, by decide +kernel, by decide +kernel⟩
noncomputable def b__law_greatest : EM Fl := (sSeq (sForI (.nm 2) 1 (sSeq (sIf (tNot' ((eCall0 (f__law_same 9) (aCons (eCall0 f_safe (aCons (eVar 0) (aCons (eVar 2) aNil))) (aCons (EM.ret (.bl true)) aNil))).bind toB)) (sRet (EM.ret (.bl false))) sNil) (sSeq (sIf (tAnd' ((eFld "World" "lag" (eVar 2)).bind fun d => EM.ret (!isN d)) (tNot' ((eCall0 (f__law_same 9) (aCons (eCall0 f_safe (aCons (eVar 0) (aCons (eMake "World" f_World___init__ (aCons (eCall0 f__law_next_bound (aCons (eFld "World" "lag" (eVar 2)) aNil)) (aCons (eFld "World" "length" (eVar 2)) aNil))) aNil))) (aCons (EM.ret (.bl false)) aNil))).bind toB))) (sRet (EM.ret (.bl false))) sNil) (sIf (tAnd' ((eFld "World" "length" (eVar 2)).bind fun d => EM.ret (!isN d)) (tNot' ((eCall0 (f__law_same 9) (aCons (eCall0 f_safe (aCons (eVar 0) (aCons (eMake "World" f_World___init__ (aCons (eFld "World" "lag" (eVar 2)) (aCons (eCall0 f__law_next_bound (aCons (eFld "World" "length" (eVar 2)) aNil)) aNil))) aNil))) (aCons (EM.ret (.bl false)) aNil))).bind toB))) (sRet (EM.ret (.bl false))) sNil)))) (sSeq (sFor (.nm 3) (iRg1 (aCons (eLenV 1) aNil)) (sFor (.nm 4) (iRg1 (aCons (eLenV 1) aNil)) (sIf (tNot' ((eCall0 (f__law_same 9) (aCons (eOwn (pOO "World") false f_World___le__ (eIxV 1 (eVar 3)) (eIxV 1 (eVar 4))) (aCons (e2 (gB gEq) (eVar 3) (eVar 4)) aNil))).bind toB)) (sRet (EM.ret (.bl false))) sNil))) (sRet (EM.ret (.bl true)))))
noncomputable def f__law_greatest : EM D := fOf 2 5 b__law_greatest
theorem o__law_greatest (X : K.In h) (G : h.Ns mainGlobals mg) (c : SaysE fa fn ts er w K) : ∃ fd, FunD K "_law_greatest" "_law_greatest" (defArgs s42) (defBody s42) (defScope s42) [] [] (ga K "_law_greatest") fd ∧ FnOk Pg w K mg base CX0 11 (ga K "_law_greatest") fd ["rule", "worlds"] (sp0 K mg f__law_greatest) := by
  obtain ⟨fd, F⟩ := c.def_ 42 (d := d42) rfl
  have F : FunD K "_law_greatest" "_law_greatest" (defArgs s42) (defBody s42) (defScope s42) [] [] (ga K "_law_greatest") fd := F
  have O : FnOk Pg w K mg base CX0 (10 + 1) (ga K "_law_greatest") fd ["rule", "worlds"] (sp0 K mg (fOf (List.length ["rule", "worlds"]) N__law_greatest.length b__law_greatest)) := fn0 (k := 10) (N := N__law_greatest) (ps := ["rule", "worlds"]) (b := b__law_greatest) F sc_law_greatest (fun cdv A outer s H E hr => (dss_cons (ds_forI 1 PassesOwn.never rfl (di_var 1 (pv 1)) (dg_nm (pg_name (i := 2) nd_law_greatest rfl (by first | exact Or.inl rfl | exact Or.inr rfl))) (dss_cons (ds_if (dt_not (dt_val (de_call0 (r__law_same X G c 9) (hr.mono (by decide)) rfl (g__law_same X G c) (kk__law_same c) (da_cons (de_call0 (r_safe X G c) (hr.mono (by decide)) rfl (g_safe X G c) (kk_safe c) (da_cons (de_var 0 (pv 0)) (da_cons (de_var 2 (pv 2)) da_nil))) (da_cons de_bl da_nil))))) (dss_one (ds_ret de_bl)) dss_nil) (dss_cons (ds_if (PW.pt (dw_and (dt_notN (de_fld (kl_World X G c) (kf_World_lag c) (de_var 2 (pv 2)))) (dw_and1 (dt_not (dt_val (de_call0 (r__law_same X G c 9) (hr.mono (by decide)) rfl (g__law_same X G c) (kk__law_same c) (da_cons (de_call0 (r_safe X G c) (hr.mono (by decide)) rfl (g_safe X G c) (kk_safe c) (da_cons (de_var 0 (pv 0)) (da_cons (de_make0 (km_World c) (r_World___init__ X G c) (hr.mono (by decide)) rfl (g_World X G c) (da_cons (de_call0 (r__law_next_bound X G c) (hr.mono (by decide)) rfl (g__law_next_bound X G c) (kk__law_next_bound c) (da_cons (de_fld (kl_World X G c) (kf_World_lag c) (de_var 2 (pv 2))) da_nil)) (da_cons (de_fld (kl_World X G c) (kf_World_length c) (de_var 2 (pv 2))) da_nil))) da_nil))) (da_cons de_bl da_nil)))))))) (dss_one (ds_ret de_bl)) dss_nil) (dss_one (ds_if (PW.pt (dw_and (dt_notN (de_fld (kl_World X G c) (kf_World_length c) (de_var 2 (pv 2)))) (dw_and1 (dt_not (dt_val (de_call0 (r__law_same X G c 9) (hr.mono (by decide)) rfl (g__law_same X G c) (kk__law_same c) (da_cons (de_call0 (r_safe X G c) (hr.mono (by decide)) rfl (g_safe X G c) (kk_safe c) (da_cons (de_var 0 (pv 0)) (da_cons (de_make0 (km_World c) (r_World___init__ X G c) (hr.mono (by decide)) rfl (g_World X G c) (da_cons (de_fld (kl_World X G c) (kf_World_lag c) (de_var 2 (pv 2))) (da_cons (de_call0 (r__law_next_bound X G c) (hr.mono (by decide)) rfl (g__law_next_bound X G c) (kk__law_next_bound c) (da_cons (de_fld (kl_World X G c) (kf_World_length c) (de_var 2 (pv 2))) da_nil)) da_nil))) da_nil))) (da_cons de_bl da_nil)))))))) (dss_one (ds_ret de_bl)) dss_nil))))) (dss_cons (ds_for PassesOwn.never rfl (di_rg1 rfl (n_range X G c) (da_cons (de_lenV 1 rfl (n_len X G c) bt_len (pv 1)) da_nil)) (dg_nm (pg_name (i := 3) nd_law_greatest rfl (by first | exact Or.inl rfl | exact Or.inr rfl))) (dss_one (ds_for PassesOwn.never rfl (di_rg1 rfl (n_range X G c) (da_cons (de_lenV 1 rfl (n_len X G c) bt_len (pv 1)) da_nil)) (dg_nm (pg_name (i := 4) nd_law_greatest rfl (by first | exact Or.inl rfl | exact Or.inr rfl))) (dss_one (ds_if (dt_not (dt_val (de_call0 (r__law_same X G c 9) (hr.mono (by decide)) rfl (g__law_same X G c) (kk__law_same c) (da_cons (de_cmpO (fun _ _ => rfl) (kq_World c) (g_World X G c) (kd_World___le__ c) (r_World___le__ X G c) (hr.mono (by decide)) (de_ixV 1 (pv 1) (de_var 3 (pv 3))) (de_ixV 1 (pv 1) (de_var 4 (pv 4)))) (da_cons (de_cmp (op_eqA hr.units) od_eq (de_var 3 (pv 3)) (de_var 4 (pv 4)) (nobehind _ (by decide) (by decide))) da_nil))))) (dss_one (ds_ret de_bl)) dss_nil))))) (dss_one (ds_ret de_bl)))))
  exact ⟨fd, F, O⟩
theorem r__law_greatest (X : K.In h) (G : h.Ns mainGlobals mg) (c : SaysE fa fn ts er w K) : FnR Pg w K mg base CX0 11 (ga K "_law_greatest") (sp0 K mg f__law_greatest) := by
  obtain ⟨fd, F, O⟩ := o__law_greatest (base := base) X G c
  exact FnR.all O (F.bindsN fun _ _ _ _ _ _ us hl => match us, hl with | [_, _], _ => rfl)
/-! ### _law_told -/
abbrev N__law_told : List Str := ["rule", "due", "worlds", "rows", "world"]
theorem nd_law_told : (N__law_told).Nodup := by decide
theorem sc_law_told : FnScope N__law_told ["rule", "due"] (defScope s43) := ⟨rfl, rfl, rfl, nd_law_told, rfl, by decide +kernel, by decide +kernel⟩
noncomputable def b__law_told : EM Fl := (sSeq (sAsg 2 (eCall0 f_frontier (aCons (eVar 0) aNil))) (sSeq (sIf (tOr' (tNot' (((eIsi "list" (eVar 2)).bind fun b => EM.ret (.bl b)).bind toB)) (t2 gEq (eLenV 2) (EM.ret (.int 0)))) (sRet (EM.ret (.bl false))) sNil) (sSeq (sAsgO 3 (oLst aNil)) (sSeq (sFor (.nm 4) (iSeq (eVar 2)) (sSeq (sIf (tNot' (((eIsiO "World" (eVar 4)).bind fun b => EM.ret (.bl b)).bind toB)) (sRet (EM.ret (.bl false))) sNil) (sApp 3 (aCons (eTup (aCons (eFld "World" "lag" (eVar 4)) (aCons (eFld "World" "length" (eVar 4)) aNil))) aNil)))) (sRet (eCall0 (f__law_same 9) (aCons (eVar 3) (aCons (eVar 1) aNil))))))))
noncomputable def f__law_told : EM D := fOf 2 5 b__law_told
theorem o__law_told (X : K.In h) (G : h.Ns mainGlobals mg) (c : SaysE fa fn ts er w K) : ∃ fd, FunD K "_law_told" "_law_told" (defArgs s43) (defBody s43) (defScope s43) [] [] (ga K "_law_told") fd ∧ FnOk Pg w K mg base CX0 11 (ga K "_law_told") fd ["rule", "due"] (sp0 K mg f__law_told) := by
  obtain ⟨fd, F⟩ := c.def_ 43 (d := d43) rfl
  have F : FunD K "_law_told" "_law_told" (defArgs s43) (defBody s43) (defScope s43) [] [] (ga K "_law_told") fd := F
  have O : FnOk Pg w K mg base CX0 (10 + 1) (ga K "_law_told") fd ["rule", "due"] (sp0 K mg (fOf (List.length ["rule", "due"]) N__law_told.length b__law_told)) := fn0 (k := 10) (N := N__law_told) (ps := ["rule", "due"]) (b := b__law_told) F sc_law_told (fun cdv A outer s H E hr => (dss_cons (ds_set (i := 2) nd_law_told rfl (by first | exact Or.inl rfl | exact Or.inr rfl) (de_call0 (r_frontier X G c) (hr.mono (by decide)) rfl (g_frontier X G c) (kk_frontier c) (da_cons (de_var 0 (pv 0)) da_nil))) (dss_cons (ds_if (PW.pt (dw_or (dt_not (dt_val (de_isi rfl (n_isinstance X G c) rfl (n_list X G c) bt_list (de_var 2 (pv 2)) bt_isinstance))) (dw_or1 (dt_cmp (op_eqA hr.units) od_eq (de_lenV 2 rfl (n_len X G c) bt_len (pv 2)) de_int (nobehind _ (by decide) (by decide)))))) (dss_one (ds_ret de_bl)) dss_nil) (dss_cons (ds_setO (i := 3) nd_law_told rfl (by first | exact Or.inl rfl | exact Or.inr rfl) (do_lst da_nil)) (dss_cons (ds_for PassesOwn.never rfl (di_seq (de_var 2 (pv 2))) (dg_nm (pg_name (i := 4) nd_law_told rfl (by first | exact Or.inl rfl | exact Or.inr rfl))) (dss_cons (ds_if (dt_not (dt_val (de_isiO (kz_World c) rfl (n_isinstance X G c) rfl (g_World X G c) (de_var 4 (pv 4)) bt_isinstance))) (dss_one (ds_ret de_bl)) dss_nil) (dss_one (ds_app 3 (pv 3) (da_cons (de_tup (da_cons (de_fld (kl_World X G c) (kf_World_lag c) (de_var 4 (pv 4))) (da_cons (de_fld (kl_World X G c) (kf_World_length c) (de_var 4 (pv 4))) da_nil))) da_nil))))) (dss_one (ds_ret (de_call0 (r__law_same X G c 9) (hr.mono (by decide)) rfl (g__law_same X G c) (kk__law_same c) (da_cons (de_var 3 (pv 3)) (da_cons (de_var 1 (pv 1)) da_nil))))))))))
  exact ⟨fd, F, O⟩
theorem r__law_told (X : K.In h) (G : h.Ns mainGlobals mg) (c : SaysE fa fn ts er w K) : FnR Pg w K mg base CX0 11 (ga K "_law_told") (sp0 K mg f__law_told) := by
  obtain ⟨fd, F, O⟩ := o__law_told (base := base) X G c
  exact FnR.all O (F.bindsN fun _ _ _ _ _ _ us hl => match us, hl with | [_, _], _ => rfl)
/-! ### _law_refused -/
abbrev N__law_refused : List Str := ["rule", "e"]
theorem nd_law_refused : (N__law_refused).Nodup := by decide
theorem sc_law_refused : FnScope N__law_refused ["rule"] (defScope s44) := ⟨rfl, rfl, rfl, nd_law_refused, rfl, by decide +kernel, by decide +kernel⟩
noncomputable def b__law_refused : EM Fl := (sSeq (sTryL 1 "WrongMark" [.fld "mark", .bl true] (sDrop (eCall f_x_frontier (aCons (eVar 0) aNil)))) (sRet (eFz (oLst aNil))))
noncomputable def f__law_refused : EM D := fOf 1 2 b__law_refused
theorem o__law_refused (X : K.In h) (G : h.Ns mainGlobals mg) (c : SaysE fa fn ts er w K) : ∃ fd, FunD K "_law_refused" "_law_refused" (defArgs s44) (defBody s44) (defScope s44) [] [] (ga K "_law_refused") fd ∧ FnOk Pg w K mg base CX0 6 (ga K "_law_refused") fd ["rule"] (sp0 K mg f__law_refused) := by
  obtain ⟨fd, F⟩ := c.def_ 44 (d := d44) rfl
  have F : FunD K "_law_refused" "_law_refused" (defArgs s44) (defBody s44) (defScope s44) [] [] (ga K "_law_refused") fd := F
  have O : FnOk Pg w K mg base CX0 (5 + 1) (ga K "_law_refused") fd ["rule"] (sp0 K mg (fOf (List.length ["rule"]) N__law_refused.length b__law_refused)) := fn0 (k := 5) (N := N__law_refused) (ps := ["rule"]) (b := b__law_refused) F sc_law_refused (fun cdv A outer s H E hr => (dss_cons (ds_tryL (i := 1) (n := "e") (C := ga K "WrongMark") rfl rfl nd_law_refused rfl rfl rfl (by decide) (g_WrongMark X G c) (kx_WrongMark c) takes0 (by decide) (fun W pn xe tk ps => (dss_one (ds_drop (de_call (r_x_frontier X G c) (lets_of tk) (hr.mono (by decide)) rfl (g_frontier X G c) (kk_frontier c) (da_cons (de_var 0 (pv 0)) da_nil))))) (xs_cons (xi_fld (kxe_WrongMark c).2 ((ke_WrongMark c).nof "mark" (by decide)) rfl (Or.inl rfl)) (xs_cons (xi_and (xi_is (kxe_WrongMark c).1 (by exact ⟨rfl, n_isinstance X G c, rfl, Or.inl rfl, rfl, g_SlotError X G c, by decide, by decide, by decide⟩) (kit_WrongMark_SlotError c) (by decide +kernel)) (xi_not (xi_is (kxe_WrongMark c).1 (by exact ⟨rfl, n_isinstance X G c, rfl, Or.inl rfl, rfl, g_UnknownMark X G c, by decide, by decide, by decide⟩) (kit_WrongMark_UnknownMark c) (by decide +kernel)))) xs_nil))) (dss_one (ds_ret (de_fz (do_lst da_nil))))))
  exact ⟨fd, F, O⟩
theorem r__law_refused (X : K.In h) (G : h.Ns mainGlobals mg) (c : SaysE fa fn ts er w K) : FnR Pg w K mg base CX0 6 (ga K "_law_refused") (sp0 K mg f__law_refused) := by
  obtain ⟨fd, F, O⟩ := o__law_refused (base := base) X G c
  exact FnR.all O (F.bindsN fun _ _ _ _ _ _ us hl => match us, hl with | [_], _ => rfl)
/-! ### law -/
abbrev N_law : List Str := ["script", "state", "marks", "clauses", "rule", "due", "worlds", "turn", "late", "far", "world", "least", "other", "good", "wrong", "bad"]
theorem ndlaw : (N_law).Nodup := by decide
theorem sclaw : FnScope N_law ["script"] (defScope s45) := ⟨rfl, rfl, rfl, ndlaw, rfl, by decide +kernel, by decide +kernel⟩
noncomputable def b_law : EM Fl := (sSeq (sAsgO 1 (eCallOO f__law_start (aCons (eVar 0) aNil))) (sSeq (sAsgO 2 (oLst (aCons (EM.ret (.str "done")) (aCons (EM.ret (.str "end")) aNil)))) (sSeq (sIf (t2 gEq (eCallIO 1 f__law_draw (aCons (EM.ret (.int 4)) aNil)) (EM.ret (.int 3))) (sAsgO 2 (oLst (aCons (EM.ret (.str "zero")) (aCons (EM.ret (.str "calm")) (aCons (EM.ret (.str "owed")) (aCons (EM.ret (.str "done")) (aCons (EM.ret (.str "end")) aNil))))))) sNil) (sSeq (sAsg 3 (eCallIO 1 f__law_clauses (aCons (eVar 2) (aCons (EM.ret (.int 4)) (aCons (e2 gIx (eFz (oLst (aCons (EM.ret (.int 12)) (aCons (EM.ret (.int 60)) (aCons (EM.ret (.int 99)) aNil))))) (eCallIO 1 f__law_draw (aCons (EM.ret (.int 3)) aNil))) aNil))))) (sSeq (sAsg 4 (eMake "Rule" f_Rule___init__ (aCons (eVar 3) aNil))) (sSeq (sAsg 5 (eCall0 f__law_frontier (aCons (eVar 3) aNil))) (sSeq (sIf (tNot' ((eCall0 f__law_told (aCons (eVar 4) (aCons (eVar 5) aNil))).bind toB)) (sRet (EM.ret (.bl false))) sNil) (sSeq (sAsgO 6 (eCallOO f_o_frontier (aCons (eVar 4) aNil))) (sSeq (sIf (tNot' ((eCallI2 6 f__law_greatest (eVar 4)).bind toB)) (sRet (EM.ret (.bl false))) sNil) (sSeq (sFor (.nm 7) (iRg1 (aCons (EM.ret (.int 12)) aNil)) (sSeq (sAsg 8 (eCallIO 1 f__law_bound (aCons (EM.ret (.int 49)) aNil))) (sSeq (sAsg 9 (eCallIO 1 f__law_bound (aCons (EM.ret (.int 49)) aNil))) (sSeq (sAsg 10 (eMake "World" f_World___init__ (aCons (eVar 8) (aCons (eVar 9) aNil)))) (sSeq (sAsgO 11 (oComp (.nm 12) ((eOwn (pOO "World") false f_World___le__ (eVar 10) (eVar 12)).bind toB) (eVar 12) [12] (iVar 6))) (sSeq (sAsg 13 (eCall0 f__law_rule_below (aCons (eVar 3) (aCons (eFz (oLst (aCons (eFz (oLst (aCons (eTup (aCons (EM.ret (.str "owed")) (aCons (EM.ret (.int 0)) aNil))) aNil))) aNil))) (aCons (eVar 8) (aCons (eVar 9) aNil)))))) (sIf (tNot' ((eCall0 (f__law_same 9) (aCons (eFz (oLst (aCons (e2 (gB gGt) (eLenV 11) (EM.ret (.int 0))) (aCons (eCall0 f_safe (aCons (eVar 4) (aCons (eVar 10) aNil))) aNil)))) (aCons (eFz (oLst (aCons (eVar 13) (aCons (eVar 13) aNil)))) aNil))).bind toB)) (sRet (EM.ret (.bl false))) sNil))))))) (sSeq (sApp 6 (aCons (eCall0 f_World_wide aNil) aNil)) (sSeq (sAsg 14 (e2 gIx (eFz (oLst (aCons (EM.ret (.str "own")) (aCons (EM.ret (.str "got")) aNil)))) (eCallIO 1 f__law_draw (aCons (EM.ret (.int 2)) aNil)))) (sSeq (sAsg 15 (eMake "Rule" f_Rule___init__ (aCons (eFz (oLst (aCons (eFz (oLst (aCons (eTup (aCons (EM.ret (.str "done")) (aCons (eCallIO 1 f__law_draw (aCons (EM.ret (.int 100)) aNil)) aNil))) (aCons (eTup (aCons (eVar 14) (aCons (eCallIO 1 f__law_draw (aCons (EM.ret (.int 100)) aNil)) aNil))) aNil)))) aNil))) aNil))) (sSeq (sIf (tNot' ((eCall0 (f__law_same 9) (aCons (eFz (oLst (aCons (eCall0 f__law_refused (aCons (eVar 15) aNil)) (aCons (eCall0 f__law_refused (aCons (eCm "Rule" f_Rule_of (EM.ret (.cls "Rule")) (aCons (eVar 14) (aCons (EM.ret (.int 1)) aNil))) aNil)) aNil)))) (aCons (eFz (oLst (aCons (eFz (oLst (aCons (eVar 14) (aCons (EM.ret (.bl true)) aNil)))) (aCons (eFz (oLst (aCons (eVar 14) (aCons (EM.ret (.bl true)) aNil)))) aNil)))) aNil))).bind toB)) (sRet (EM.ret (.bl false))) sNil) (sRet (eCall0 f__law_told (aCons (eVar 4) (aCons (eVar 5) aNil))))))))))))))))))
noncomputable def f_law : EM D := fOf 1 16 b_law
theorem o_law (X : K.In h) (G : h.Ns mainGlobals mg) (c : SaysE fa fn ts er w K) : ∃ fd, FunD K "law" "law" (defArgs s45) (defBody s45) (defScope s45) [] [] (ga K "law") fd ∧ FnOk Pg w K mg base CX0 12 (ga K "law") fd ["script"] (sp0 K mg f_law) := by
  obtain ⟨fd, F⟩ := c.def_ 45 (d := d45) rfl
  have F : FunD K "law" "law" (defArgs s45) (defBody s45) (defScope s45) [] [] (ga K "law") fd := F
  have O : FnOk Pg w K mg base CX0 (11 + 1) (ga K "law") fd ["script"] (sp0 K mg (fOf (List.length ["script"]) N_law.length b_law)) := fn0 (k := 11) (N := N_law) (ps := ["script"]) (b := b_law) F sclaw (fun cdv A outer s H E hr => (dss_cons (ds_setO (i := 1) ndlaw rfl (by first | exact Or.inl rfl | exact Or.inr rfl) (do_call (r__law_start X G c) (hr.mono (by decide)) rfl (g__law_start X G c) (kk__law_start c) (da_cons (de_var 0 (pv 0)) da_nil))) (dss_cons (ds_setO (i := 2) ndlaw rfl (by first | exact Or.inl rfl | exact Or.inr rfl) (do_lst (da_cons de_str (da_cons de_str da_nil)))) (dss_cons (ds_if (dt_cmp (op_eqA hr.units) od_eq (de_callIO 1 (r__law_draw X G c) (hr.mono (by decide)) rfl (g__law_draw X G c) (kk__law_draw c) (pv 1) (da_cons de_int da_nil)) de_int (nobehind _ (by decide) (by decide))) (dss_one (ds_setO (i := 2) ndlaw rfl (by first | exact Or.inl rfl | exact Or.inr rfl) (do_lst (da_cons de_str (da_cons de_str (da_cons de_str (da_cons de_str (da_cons de_str da_nil)))))))) dss_nil) (dss_cons (ds_set (i := 3) ndlaw rfl (by first | exact Or.inl rfl | exact Or.inr rfl) (de_callIO 1 (r__law_clauses X G c) (hr.mono (by decide)) rfl (g__law_clauses X G c) (kk__law_clauses c) (pv 1) (da_cons (de_var 2 (pv 2)) (da_cons de_int (da_cons (de_ix ix_seq od_ix (de_fz (do_lst (da_cons de_int (da_cons de_int (da_cons de_int da_nil))))) (de_callIO 1 (r__law_draw X G c) (hr.mono (by decide)) rfl (g__law_draw X G c) (kk__law_draw c) (pv 1) (da_cons de_int da_nil))) da_nil))))) (dss_cons (ds_set (i := 4) ndlaw rfl (by first | exact Or.inl rfl | exact Or.inr rfl) (de_make0 (km_Rule c) (r_Rule___init__ X G c) (hr.mono (by decide)) rfl (g_Rule X G c) (da_cons (de_var 3 (pv 3)) da_nil))) (dss_cons (ds_set (i := 5) ndlaw rfl (by first | exact Or.inl rfl | exact Or.inr rfl) (de_call0 (r__law_frontier X G c) (hr.mono (by decide)) rfl (g__law_frontier X G c) (kk__law_frontier c) (da_cons (de_var 3 (pv 3)) da_nil))) (dss_cons (ds_if (dt_not (dt_val (de_call0 (r__law_told X G c) (hr.mono (by decide)) rfl (g__law_told X G c) (kk__law_told c) (da_cons (de_var 4 (pv 4)) (da_cons (de_var 5 (pv 5)) da_nil))))) (dss_one (ds_ret de_bl)) dss_nil) (dss_cons (ds_setO (i := 6) ndlaw rfl (by first | exact Or.inl rfl | exact Or.inr rfl) (do_call (r_o_frontier X G c) (hr.mono (by decide)) rfl (g_frontier X G c) (kk_frontier c) (da_cons (de_var 4 (pv 4)) da_nil))) (dss_cons (ds_if (dt_not (dt_val (de_callI2 6 (r__law_greatest X G c) (hr.mono (by decide)) rfl (g__law_greatest X G c) (kk__law_greatest c) (de_var 4 (pv 4)) (pv 6)))) (dss_one (ds_ret de_bl)) dss_nil) (dss_cons (ds_for PassesOwn.never rfl (di_rg1 rfl (n_range X G c) (da_cons de_int da_nil)) (dg_nm (pg_name (i := 7) ndlaw rfl (by first | exact Or.inl rfl | exact Or.inr rfl))) (dss_cons (ds_set (i := 8) ndlaw rfl (by first | exact Or.inl rfl | exact Or.inr rfl) (de_callIO 1 (r__law_bound X G c) (hr.mono (by decide)) rfl (g__law_bound X G c) (kk__law_bound c) (pv 1) (da_cons de_int da_nil))) (dss_cons (ds_set (i := 9) ndlaw rfl (by first | exact Or.inl rfl | exact Or.inr rfl) (de_callIO 1 (r__law_bound X G c) (hr.mono (by decide)) rfl (g__law_bound X G c) (kk__law_bound c) (pv 1) (da_cons de_int da_nil))) (dss_cons (ds_set (i := 10) ndlaw rfl (by first | exact Or.inl rfl | exact Or.inr rfl) (de_make0 (km_World c) (r_World___init__ X G c) (hr.mono (by decide)) rfl (g_World X G c) (da_cons (de_var 8 (pv 8)) (da_cons (de_var 9 (pv 9)) da_nil)))) (dss_cons (ds_setLc (own := [("other", 12)]) 11 (by rfl) ndlaw rfl rfl (sw_true rfl rfl rfl (by decide +kernel)) (di_var 6 (pv 6)) (blkOk_by (N := N_law) (sc := defScope s45) (own := [("other", 12)]) (by decide +kernel)) (fun _ _ _ _ _ => (dg_nm (pg_name (i := 12) ndlaw rfl (by first | exact Or.inl rfl | exact Or.inr rfl)))) (fun _ _ _ _ _ => (dts_one (dt_cmpO (fun _ _ => rfl) (kq_World c) (g_World X G c) (kd_World___le__ c) (r_World___le__ X G c) (hr.mono (by decide)) (de_var 10 (pv 10)) (de_var 12 (pv 12))))) (fun _ _ _ _ _ => (de_var 12 (pv 12))) (by decide)) (dss_cons (ds_set (i := 13) ndlaw rfl (by first | exact Or.inl rfl | exact Or.inr rfl) (de_call0 (r__law_rule_below X G c) (hr.mono (by decide)) rfl (g__law_rule_below X G c) (kk__law_rule_below c) (da_cons (de_var 3 (pv 3)) (da_cons (de_fz (do_lst (da_cons (de_fz (do_lst (da_cons (de_tup (da_cons de_str (da_cons de_int da_nil))) da_nil))) da_nil))) (da_cons (de_var 8 (pv 8)) (da_cons (de_var 9 (pv 9)) da_nil)))))) (dss_one (ds_if (dt_not (dt_val (de_call0 (r__law_same X G c 9) (hr.mono (by decide)) rfl (g__law_same X G c) (kk__law_same c) (da_cons (de_fz (do_lst (da_cons (de_cmp op_gt (od_cmp _) (de_lenV 11 rfl (n_len X G c) bt_len (pv 11)) de_int (nobehind _ (by decide) (by decide))) (da_cons (de_call0 (r_safe X G c) (hr.mono (by decide)) rfl (g_safe X G c) (kk_safe c) (da_cons (de_var 4 (pv 4)) (da_cons (de_var 10 (pv 10)) da_nil))) da_nil)))) (da_cons (de_fz (do_lst (da_cons (de_var 13 (pv 13)) (da_cons (de_var 13 (pv 13)) da_nil)))) da_nil))))) (dss_one (ds_ret de_bl)) dss_nil)))))))) (dss_cons (ds_app 6 (pv 6) (da_cons (de_smeth0 (kr_World c) (kv_World_wide c) (r_World_wide X G c) (hr.mono (by decide)) rfl (g_World X G c)) da_nil)) (dss_cons (ds_set (i := 14) ndlaw rfl (by first | exact Or.inl rfl | exact Or.inr rfl) (de_ix ix_seq od_ix (de_fz (do_lst (da_cons de_str (da_cons de_str da_nil)))) (de_callIO 1 (r__law_draw X G c) (hr.mono (by decide)) rfl (g__law_draw X G c) (kk__law_draw c) (pv 1) (da_cons de_int da_nil)))) (dss_cons (ds_set (i := 15) ndlaw rfl (by first | exact Or.inl rfl | exact Or.inr rfl) (de_make0 (km_Rule c) (r_Rule___init__ X G c) (hr.mono (by decide)) rfl (g_Rule X G c) (da_cons (de_fz (do_lst (da_cons (de_fz (do_lst (da_cons (de_tup (da_cons de_str (da_cons (de_callIO 1 (r__law_draw X G c) (hr.mono (by decide)) rfl (g__law_draw X G c) (kk__law_draw c) (pv 1) (da_cons de_int da_nil)) da_nil))) (da_cons (de_tup (da_cons (de_var 14 (pv 14)) (da_cons (de_callIO 1 (r__law_draw X G c) (hr.mono (by decide)) rfl (g__law_draw X G c) (kk__law_draw c) (pv 1) (da_cons de_int da_nil)) da_nil))) da_nil)))) da_nil))) da_nil))) (dss_cons (ds_if (dt_not (dt_val (de_call0 (r__law_same X G c 9) (hr.mono (by decide)) rfl (g__law_same X G c) (kk__law_same c) (da_cons (de_fz (do_lst (da_cons (de_call0 (r__law_refused X G c) (hr.mono (by decide)) rfl (g__law_refused X G c) (kk__law_refused c) (da_cons (de_var 15 (pv 15)) da_nil)) (da_cons (de_call0 (r__law_refused X G c) (hr.mono (by decide)) rfl (g__law_refused X G c) (kk__law_refused c) (da_cons (de_cmeth (g_Rule X G c) (kr_Rule c) (kw_Rule_of c) (r_Rule_of X G c) (hr.mono (by decide)) (de_glob (con_cls (g_Rule X G c)) rfl) (da_cons (de_var 14 (pv 14)) (da_cons de_int da_nil))) da_nil)) da_nil)))) (da_cons (de_fz (do_lst (da_cons (de_fz (do_lst (da_cons (de_var 14 (pv 14)) (da_cons de_bl da_nil)))) (da_cons (de_fz (do_lst (da_cons (de_var 14 (pv 14)) (da_cons de_bl da_nil)))) da_nil)))) da_nil))))) (dss_one (ds_ret de_bl)) dss_nil) (dss_one (ds_ret (de_call0 (r__law_told X G c) (hr.mono (by decide)) rfl (g__law_told X G c) (kk__law_told c) (da_cons (de_var 4 (pv 4)) (da_cons (de_var 5 (pv 5)) da_nil))))))))))))))))))))
  exact ⟨fd, F, O⟩
theorem r_law (X : K.In h) (G : h.Ns mainGlobals mg) (c : SaysE fa fn ts er w K) : FnR Pg w K mg base CX0 12 (ga K "law") (sp0 K mg f_law) := by
  obtain ⟨fd, F, O⟩ := o_law (base := base) X G c
  exact FnR.all O (F.bindsN fun _ _ _ _ _ _ us hl => match us, hl with | [_], _ => rfl)
end Wk

set_option Elab.async false
set_option linter.all false
set_option maxRecDepth 100000
set_option maxHeartbeats 4000000
/-! PL0: the meanings, computed. -/
namespace Wk
open PySem DL L2
section
variable {α β : Type} (ρ : List Sl) (i j n : Nat)
@[simp] theorem x_bind (f : EM α) (g : α → EM β) : EM.bind f g ρ = (f ρ).bind g := rfl
@[simp] theorem x_rok (a : α) (g : α → EM β) : R.bind (.ok a ρ) g = g a ρ := rfl
@[simp] theorem x_rbad (g : α → EM β) : R.bind (.bad : R α) g = .bad := rfl
@[simp] theorem x_ret (a : α) : EM.ret a ρ = .ok a ρ := rfl
@[simp] theorem x_some (a : α) : EM.opt (some a) ρ = .ok a ρ := rfl
@[simp] theorem x_none : (EM.opt (none : Option α)) ρ = .bad := rfl
@[simp] theorem x_nil : sNil ρ = .ok .nx ρ := rfl
@[simp] theorem x_bad : sBad ρ = .bad := rfl
@[simp] theorem x_seq (f g : EM Fl) : sSeq f g ρ = match f ρ with
  | .ok .nx ρ' => g ρ'
  | r => r := rfl
@[simp] theorem x_asg (f : EM D) : sAsg i f ρ = (f ρ).bind fun d ρ => .ok .nx (ρ.set i (.fz d)) := rfl
@[simp] theorem x_asgO (f : EM (List D)) : sAsgO i f ρ = (f ρ).bind fun ds ρ => .ok .nx (ρ.set i (.ow ds)) := rfl
@[simp] theorem x_asgT (g : Tg) (f : EM D) : sAsgT g f ρ = (f ρ).bind fun d ρ => match setT g d ρ with
  | some ρ' => .ok .nx ρ'
  | none => .bad := rfl
@[simp] theorem x_drop (f : EM D) : sDrop f ρ = (f ρ).bind fun _ => EM.ret .nx := rfl
@[simp] theorem x_if (c : EM Bool) (a b : EM Fl) : sIf c a b ρ = (c ρ).bind fun t => if t = true then a else b := rfl
@[simp] theorem x_sret (f : EM D) : sRet f ρ = (f ρ).bind fun d => EM.ret (.rt d) := rfl
@[simp] theorem x_sretN : sRetN ρ = .ok (.rt .non) ρ := rfl
@[simp] theorem x_ite {p : Prop} [Decidable p] (f g : EM α) : (if p then f else g) ρ = if p then f ρ else g ρ := by split <;> rfl
@[simp] theorem x_var : eVar i ρ = match ρ.getD i .no with
  | .fz d => .ok d ρ
  | .ow xs => .ok (.lst xs) (ρ.set i (.fz (.lst xs)))
  | _ => .bad := rfl
@[simp] theorem x_e2 (g : D → D → Option D) (fa fb : EM D) : e2 g fa fb ρ = (fa ρ).bind fun x => fb.bind fun y => EM.opt (g x y) := rfl
@[simp] theorem x_t2 (g : D → D → Option Bool) (fa fb : EM D) : t2 g fa fb ρ = (fa ρ).bind fun x => fb.bind fun y => EM.opt (g x y) := rfl
@[simp] theorem x_gB (g : D → D → Option Bool) (x y : D) : gB g x y = (g x y).map D.bl := rfl
@[simp] theorem x_toB (b : Bool) : toB (.bl b) = EM.ret b := rfl
@[simp] theorem x_isN0 : isN .non = true := rfl
@[simp] theorem x_isN1 (i : Int) : isN (.int i) = false := rfl
@[simp] theorem x_and (fa fb : EM D) : eAnd fa fb ρ = (fa ρ).bind fun d => match d with
  | .bl true => fb
  | .bl false => EM.ret (.bl false)
  | _ => fun _ => .bad := rfl
@[simp] theorem x_or (fa fb : EM D) : eOr fa fb ρ = (fa ρ).bind fun d => match d with
  | .bl false => fb
  | .bl true => EM.ret (.bl true)
  | _ => fun _ => .bad := rfl
@[simp] theorem x_not (fa : EM D) : eNot fa ρ = (fa ρ).bind fun d => match d with
  | .bl b => EM.ret (.bl (!b))
  | _ => fun _ => .bad := rfl
@[simp] theorem x_tand (fa fb : EM Bool) : tAnd' fa fb ρ = (fa ρ).bind fun b => if b = true then fb else EM.ret false := rfl
@[simp] theorem x_tor (fa fb : EM Bool) : tOr' fa fb ρ = (fa ρ).bind fun b => if b = true then EM.ret true else fb := rfl
@[simp] theorem x_tnot (fa : EM Bool) : tNot' fa ρ = (fa ρ).bind fun b => EM.ret (!b) := rfl
@[simp] theorem x_eif (c : EM Bool) (fa fb : EM D) : eIf c fa fb ρ = (c ρ).bind fun b => if b = true then fa else fb := rfl
@[simp] theorem x_anil : aNil ρ = .ok [] ρ := rfl
@[simp] theorem x_acons (f : EM D) (g : EM (List D)) : aCons f g ρ = (f ρ).bind fun d => g.bind fun ds => EM.ret (d :: ds) := rfl
@[simp] theorem x_lim (f : EM α) : lim n f ρ = if n ≤ LIM then f ρ else .bad := by unfold lim; split <;> rfl
@[simp] theorem x_olst (f : EM (List D)) : oLst f ρ = (f ρ).bind fun ds => lim ds.length (EM.ret ds) := rfl
@[simp] theorem x_efz (f : EM (List D)) : eFz f ρ = (f ρ).bind fun ds => EM.ret (.lst ds) := rfl
@[simp] theorem x_etup (f : EM (List D)) : eTup f ρ = (f ρ).bind fun ds => lim ds.length (EM.ret (.tup ds)) := rfl
@[simp] theorem x_setT1 (d : D) : setT (.nm i) d ρ = some (ρ.set i (.fz d)) := rfl
@[simp] theorem x_setT2 (is : List Nat) (ds : List D) : setT (.tp is) (.tup ds) ρ = if is.length = ds.length then some (setL is ds ρ) else none := rfl
@[simp] theorem x_setL0 : setL [] [] ρ = ρ := rfl
@[simp] theorem x_setL1 (is : List Nat) (d : D) (ds : List D) : setL (i :: is) (d :: ds) ρ = setL is ds (ρ.set i (.fz d)) := rfl
@[simp] theorem x_seqD1 (ds : List D) : seqD (.lst ds) = some ds := rfl
@[simp] theorem x_seqD2 (ds : List D) : seqD (.tup ds) = some ds := rfl
@[simp] theorem x_seqD3 (ds : List D) : seqD (.rd ds) = some ds := rfl
@[simp] theorem x_iseq (f : EM D) : iSeq f ρ = (f ρ).bind fun d => EM.opt ((seqD d).map .fz) := rfl
@[simp] theorem x_ivar : iVar i ρ = match ρ.getD i .no with
  | .fz d => (EM.opt ((seqD d).map .fz)) ρ
  | .ow xs => .ok (.sl i xs) ρ
  | .io xs => .ok (.sl i xs) ρ
  | _ => .bad := rfl
@[simp] theorem x_call (fs : EM D) (fa : EM (List D)) : eCall0 fs fa ρ = (fa ρ).bind (callRes0 fs) := rfl
@[simp] theorem x_blt (g : List D → Option D) (fa : EM (List D)) : eBlt g fa ρ = (fa ρ).bind fun ds => EM.opt (g ds) := rfl
@[simp] theorem x_len : eLenV j ρ = match sqSl (ρ.getD j .no) with
  | none => .bad
  | some ds => .ok (.int ds.length) ρ := rfl
@[simp] theorem x_ixv (fi : EM D) : eIxV j fi ρ = match sqSl (ρ.getD j .no) with
  | none => .bad
  | some _ => (fi ρ).bind fun i ρ1 => match i, sqSl (ρ1.getD j .no) with
    | .int k, some ds => EM.opt (atI ds k) ρ1
    | _, _ => .bad := rfl
@[simp] theorem x_sq1 (ds : List D) : sqSl (.fz (.lst ds)) = some ds := rfl
@[simp] theorem x_sq2 (ds : List D) : sqSl (.fz (.tup ds)) = some ds := rfl
@[simp] theorem x_sq3 (ds : List D) : sqSl (.fz (.rd ds)) = some ds := rfl
@[simp] theorem x_sq4 (ds : List D) : sqSl (.ow ds) = some ds := rfl
@[simp] theorem x_sq5 (ds : List D) : sqSl (.io ds) = some ds := rfl
@[simp] theorem x_lt (a b : Int) : gLt (.int a) (.int b) = some (decide (a < b)) := rfl
@[simp] theorem x_le (a b : Int) : gLe (.int a) (.int b) = some (decide (a ≤ b)) := rfl
@[simp] theorem x_gt (a b : Int) : gGt (.int a) (.int b) = some (decide (b < a)) := rfl
@[simp] theorem x_ge (a b : Int) : gGe (.int a) (.int b) = some (decide (b ≤ a)) := rfl
@[simp] theorem x_add (a b : Int) : gAdd (.int a) (.int b) = some (.int (a + b)) := rfl
@[simp] theorem x_sub (a b : Int) : gSub (.int a) (.int b) = some (.int (a - b)) := rfl
@[simp] theorem x_addL (a b : List D) : gAdd (.lst a) (.lst b) = if a.length + b.length ≤ LIM then some (.lst (a ++ b)) else none := rfl
@[simp] theorem x_addT (a b : List D) : gAdd (.tup a) (.tup b) = if a.length + b.length ≤ LIM then some (.tup (a ++ b)) else none := rfl
@[simp] theorem x_at0 (d : D) (ds : List D) : atI (d :: ds) 0 = some d := by
  unfold atI ixN
  simp
@[simp] theorem x_at1 (d e : D) (ds : List D) : atI (d :: e :: ds) 1 = some e := by
  unfold atI ixN
  simp
  rw [if_pos (by omega)]
  rfl
@[simp] theorem x_app (f : EM (List D)) : sApp j f ρ = match ownL (ρ.getD j .no) with
  | none => .bad
  | some _ => (f ρ).bind fun ds ρ' => match ds, ownL (ρ'.getD j .no) with
    | [d], some xs => if xs.length < LIM then .ok .nx (ρ'.set j (reL (ρ'.getD j .no) (xs ++ [d]))) else .bad
    | _, _ => .bad := rfl
@[simp] theorem x_ins (f : EM (List D)) : sIns j f ρ = match ownL (ρ.getD j .no) with
  | none => .bad
  | some _ => (f ρ).bind fun ds ρ' => match ds, ownL (ρ'.getD j .no) with
    | [.int i, d], some xs => if xs.length < LIM ∧ 0 ≤ i ∧ i < 2 ^ 63 then .ok .nx (ρ'.set j (reL (ρ'.getD j .no) (xs.take i.toNat ++ [d] ++ xs.drop i.toNat))) else .bad
    | _, _ => .bad := rfl
@[simp] theorem x_own1 (xs : List D) : ownL (.ow xs) = some xs := rfl
@[simp] theorem x_own2 (xs : List D) : ownL (.io xs) = some xs := rfl
@[simp] theorem x_re1 (xs ys : List D) : reL (.ow xs) ys = .ow ys := rfl
@[simp] theorem x_re2 (xs ys : List D) : reL (.io xs) ys = .io ys := rfl
@[simp] theorem x_fld (c f : Str) (fe : EM D) : eFld c f fe ρ = (fe ρ).bind fun d => EM.opt (fldOf c f d) := rfl
@[simp] theorem x_any (xs : List D) : gAny [.lst xs] = (bools xs).map fun bs => .bl (bs.any id) := rfl
@[simp] theorem x_tup1 (xs : List D) : gTuple [.lst xs] = some (.tup xs) := rfl
@[simp] theorem x_list1 (xs : List D) : gList [.lst xs] = some (.lst xs) := rfl
@[simp] theorem x_list2 (xs : List D) : gList [.rd xs] = some (.lst xs) := rfl
@[simp] theorem x_int1 (i : Int) : gInt [.int i] = some (.int i) := rfl
@[simp] theorem x_len1 (xs : List D) : gLen [.lst xs] = some (.int xs.length) := rfl
@[simp] theorem x_len2 (xs : List D) : gLen [.tup xs] = some (.int xs.length) := rfl
theorem LIM_eq : LIM = 1000000 := rfl
@[simp] theorem x_LIM : LIM = 1000000 := rfl
end
theorem bools_map {α : Type} (f : α → Bool) : ∀ xs : List α, bools (xs.map fun x => .bl (f x)) = some (xs.map f)
  | [] => rfl
  | x :: xs => by
    show (bools (xs.map fun x => .bl (f x))).map (f x :: ·) = _
    rw [bools_map f xs]
    rfl
/-- a def's answer, from its meaning at frozen arguments -/
theorem call_ok {fs : EM D} {ds : List D} {d : D} {as : List Sl} (h : fs (ds.map .fz) = .ok d as) : callRes0 fs ds = EM.ret d := by
  funext ρ
  unfold callRes0
  rw [h]
  rfl
theorem merge_fz (ρ' : List Sl) : ∀ (i : Nat) (ds : List D), mergeA ρ' i (ds.map .fz) = some (ds.map .fz)
  | _, [] => by rfl
  | i, d :: ds => by
    show (mergeA ρ' (i + 1) (ds.map .fz)).map (.fz d :: ·) = _
    rw [merge_fz ρ' (i + 1) ds]
    rfl
/-- what a body answers -/
def ans : R Fl → Option D
  | .ok (.rt d) _ => some d
  | .ok .nx _ => some .non
  | _ => none
@[simp] theorem ans_rt (d : D) (ρ : List Sl) : ans (.ok (.rt d) ρ) = some d := rfl
@[simp] theorem ans_nx (ρ : List Sl) : ans (.ok .nx ρ) = some .non := rfl
theorem ofF {n N : Nat} {b : EM Fl} {ds : List D} {d : D} (hn : ds.length = n) (h : ans (b (ds.map .fz ++ List.replicate (N - n) .no)) = some d) : fOf n N b (ds.map .fz) = .ok d (ds.map .fz) := by
  unfold fOf
  have e : (ds.map Sl.fz).length = n := by rw [List.length_map, hn]
  rw [if_pos e, e]
  cases z : b (ds.map .fz ++ List.replicate (N - n) .no) with
  | bad => rw [z] at h; cases h
  | ex c ns es ρ' => rw [z] at h; cases h
  | ok a ρ' =>
    rw [z] at h
    cases a with
    | rt d' =>
      cases h
      dsimp only
      rw [merge_fz]
    | nx =>
      cases h
      dsimp only
      rw [merge_fz]
    | bk => cases h
    | ct => cases h
theorem callF {n N : Nat} {b : EM Fl} {ds : List D} {d : D} (hn : ds.length = n) (h : ans (b (ds.map .fz ++ List.replicate (N - n) .no)) = some d) : callRes0 (fOf n N b) ds = EM.ret d := call_ok (ofF hn h)
theorem for_src {tg : Tg} {src : EM Src} {body : EM Fl} {S : Src} {ρ ρ1 : List Sl} (hs : src ρ = .ok S ρ1) (hn : noSl S) : sFor tg src body ρ = forD tg body S.items ρ1 := by
  unfold sFor
  rw [x_bind, hs, x_rok, if_pos hn]
theorem for_var {tg : Tg} {body : EM Fl} {ρ : List Sl} {d : D} {ds : List D} (i : Nat) (h : ρ.getD i .no = .fz d) (hd : seqD d = some ds) : sFor tg (iSeq (eVar i)) body ρ = forD tg body ds ρ :=
  for_src (S := .fz ds) (by
    rw [x_iseq, x_var, h]
    show (EM.opt ((seqD d).map Src.fz)) ρ = _
    rw [hd]
    rfl) trivial
/-! ### comprehensions without effects -/
theorem compD_pure {α : Type} {still : List Sl → Prop} {tg : Tg} {c : EM Bool} {elt : EM D} {vs : List Nat} {enc : α → D} {p : α → Bool} {e : α → D} {ρ : List Sl} (hst : still ρ)
    : ∀ (xs : List α) (acc : List D), (∀ x ∈ xs, ∃ ρx, setT tg (enc x) ρ = some ρx ∧ c ρx = .ok (p x) ρx ∧ (p x = true → elt ρx = .ok (e x) ρx) ∧ wipeR vs ρx = ρ) → compD still tg c elt vs (xs.map enc) acc ρ = .ok (acc ++ (xs.filter p).map e) ρ
  | [], acc, _ => by
    unfold compD
    simp [hst]
  | x :: xs, acc, hx => by
    obtain ⟨ρx, h1, h2, h3, h4⟩ := hx x (List.mem_cons_self ..)
    have ih := fun acc => compD_pure hst xs acc fun y hy => hx y (List.mem_cons_of_mem _ hy)
    rw [List.map_cons]
    unfold compD
    rw [if_pos hst, h1]
    show (c ρx).bindN _ = _
    rw [h2]
    show (if p x = true then (elt ρx).bindN _ else _) = _
    by_cases z : p x = true
    · rw [if_pos z, h3 z]
      show compD _ _ _ _ _ _ _ (wipeR vs ρx) = _
      rw [h4, ih, List.filter_cons_of_pos z]
      simp
    · rw [if_neg z, h4, ih, List.filter_cons_of_neg z]
/-- [e for x in xs if p] -/
theorem oComp_pure {α : Type} {tg : Tg} {c : EM Bool} {elt : EM D} {vs : List Nat} {src : EM Src} {S : Src} {ρ ρ0 : List Sl} (enc : α → D) (p : α → Bool) (e : α → D) (xs : List α) (hs : src ρ = .ok S ρ) (hi : S.items = xs.map enc) (hw : wipeR vs ρ = ρ0) (hst : S.still ρ0) (hu : unwipe vs ρ ρ0 = ρ) (hl : xs.length ≤ LIM)
    (hx : ∀ x ∈ xs, ∃ ρx, setT tg (enc x) ρ0 = some ρx ∧ c ρx = .ok (p x) ρx ∧ (p x = true → elt ρx = .ok (e x) ρx) ∧ wipeR vs ρx = ρ0) : oComp tg c elt vs src ρ = .ok ((xs.filter p).map e) ρ := by
  unfold oComp
  show (src ρ).bind _ = _
  rw [hs]
  show (match compD S.still tg c elt vs S.items [] (wipeR vs ρ) with
    | .ok ds ρ' => if ds.length ≤ LIM then R.ok ds (unwipe vs ρ ρ') else R.bad
    | _ => R.bad) = _
  rw [hw, hi, compD_pure hst xs [] hx]
  show (if (([] : List D) ++ (xs.filter p).map e).length ≤ LIM then R.ok _ (unwipe vs ρ ρ0) else R.bad) = _
  rw [hu, List.nil_append, if_pos (by rw [List.length_map]; exact Nat.le_trans (List.length_filter_le ..) hl)]
end Wk

set_option Elab.async false
set_option linter.all false
set_option maxRecDepth 100000
set_option maxHeartbeats 4000000
/-! PL1: forms, computed. -/
namespace Wk
open PySem DL L2
@[simp] theorem x_idx (ys : List Str) (f : EM D) (ρ : List Sl) : eIdx ys f ρ = (f ρ).bind fun d => EM.opt (match d with
  | .str z => (idxS z ys).map fun j => .int (j : Nat)
  | _ => none) := rfl
inductive Kd | number | lag | length | none
deriving DecidableEq
def Kd.s : Kd → Str
  | .number => "number" | .lag => "lag" | .length => "length" | .none => "none"
def Kd.n : Kd → Nat
  | .number => 0 | .lag => 1 | .length => 2 | .none => 3
abbrev Pt := Kd × Int
def eP (p : Pt) : D := .tup [.str p.1.s, .int p.2]
def pLe (p q : Pt) : Bool := q.1 == .none || (decide (p.1.n ≤ q.1.n) && decide (p.2 ≤ q.2))
@[simp] theorem eq_kd (k : Kd) (l : Kd) : gEq (.str k.s) (.str l.s) = some (k == l) := by cases k <;> cases l <;> decide +kernel
@[simp] theorem none_k (k : Kd) : gEq (.str k.s) (.str "none") = some (k == .none) := eq_kd k .none
/-- any([g(x) for x in xs]) as a test -/
theorem any_comp {α : Type} {tg : Tg} {elt : EM D} {vs : List Nat} {src : EM Src} {S : Src} {ρ : List Sl} (ρ0 : List Sl) (enc : α → D) (q : α → Bool) (xs : List α) (hs : src ρ = .ok S ρ) (hi : S.items = xs.map enc) (hw : wipeR vs ρ = ρ0) (hst : S.still ρ0) (hu : unwipe vs ρ ρ0 = ρ) (hl : xs.length ≤ LIM)
    (hx : ∀ x ∈ xs, ∃ ρx, setT tg (enc x) ρ0 = some ρx ∧ elt ρx = .ok (.bl (q x)) ρx ∧ wipeR vs ρx = ρ0) : ((eBlt gAny (aCons (eFz (oComp tg (EM.ret true) elt vs src)) aNil)).bind toB) ρ = .ok (xs.any q) ρ := by
  have h := oComp_pure (tg := tg) (c := EM.ret true) (elt := elt) enc (fun _ => true) (fun x => .bl (q x)) xs hs hi hw hst hu hl fun x hm => by
    obtain ⟨ρx, h1, h2, h3⟩ := hx x hm
    exact ⟨ρx, h1, rfl, fun _ => h2, h3⟩
  have hf : xs.filter (fun _ => true) = xs := List.filter_eq_self.mpr fun _ _ => rfl
  rw [hf] at h
  simp only [x_blt, x_acons, x_efz, h, x_rok, x_bind, x_ret, x_anil, x_any, bools_map, Option.map_some, x_some, List.any_map, x_toB]
  rfl
/-- for x in xs: if not c: return d -/
theorem for_all {α : Type} {i : Nat} {c : EM Bool} {d : D} (enc : α → D) (p : α → Bool) (st : Sl → List Sl) (hset : ∀ s e, (st s).set i (.fz e) = st (.fz e)) : ∀ (xs : List α) (s : Sl), (∀ x ∈ xs, c (st (.fz (enc x))) = .ok (p x) (st (.fz (enc x)))) →
    ∃ s', forD (.nm i) (sIf (tNot' c) (sRet (EM.ret d)) sNil) (xs.map enc) (st s) = (if xs.all p = true then .ok .nx (st s') else .ok (.rt d) (st s'))
  | [], s, _ => ⟨s, rfl⟩
  | x :: xs, s, h => by
    have hx := h x (List.mem_cons_self ..)
    have e1 : forD (.nm i) (sIf (tNot' c) (sRet (EM.ret d)) sNil) ((x :: xs).map enc) (st s) = stepF ((sIf (tNot' c) (sRet (EM.ret d)) sNil) (st (.fz (enc x)))) (forD (.nm i) (sIf (tNot' c) (sRet (EM.ret d)) sNil) (xs.map enc)) := by
      rw [List.map_cons]
      conv => lhs; unfold forD
      rw [x_setT1, hset]
    have e2 : (sIf (tNot' c) (sRet (EM.ret d)) sNil) (st (.fz (enc x))) = if p x = true then .ok .nx (st (.fz (enc x))) else .ok (.rt d) (st (.fz (enc x))) := by
      rw [x_if, x_tnot, hx]
      cases p x <;> rfl
    rw [e1, e2, List.all_cons]
    cases z : p x with
    | true =>
      obtain ⟨s', ih⟩ := for_all (d := d) enc p st hset xs (.fz (enc x)) fun y hy => h y (List.mem_cons_of_mem _ hy)
      exact ⟨s', by rw [Bool.true_and]; exact ih⟩
    | false => exact ⟨.fz (enc x), rfl⟩
def eG (g : List Pt) : D := .tup (g.map eP)
def gLeG (a b : List Pt) : Bool := a.all fun p => b.any fun q => pLe p q
end Wk

set_option Elab.async false
set_option linter.all false
set_option maxRecDepth 100000
set_option maxHeartbeats 4000000
/-! PL2: loops that keep the greatest, that put in order. -/
namespace Wk
open PySem DL L2
/-- only what is not below another is kept -/
def stepM {α : Type} (le : α → α → Bool) (kept : List α) (x : α) : List α := if kept.any (le x) = true then kept else kept.filter (fun o => !le o x) ++ [x]
def maxs {α : Type} (le : α → α → Bool) (xs : List α) : List α := xs.foldl (stepM le) []
theorem stepM_len {α : Type} (le : α → α → Bool) (kept : List α) (x : α) : (stepM le kept x).length ≤ kept.length + 1 := by
  unfold stepM
  split
  · omega
  · rw [List.length_append, List.length_singleton]
    have := List.length_filter_le (fun o => !le o x) kept
    omega
theorem maxs_len {α : Type} (le : α → α → Bool) : ∀ (xs kept : List α), (xs.foldl (stepM le) kept).length ≤ kept.length + xs.length
  | [], kept => by simp
  | x :: xs, kept => by
    rw [List.foldl_cons, List.length_cons]
    have h1 := maxs_len le xs (stepM le kept x)
    have h2 := stepM_len le kept x
    omega
theorem oComp_pure0 {α : Type} {tg : Tg} {c : EM Bool} {elt : EM D} {vs : List Nat} {src : EM Src} {S : Src} {ρ : List Sl} (ρ0 : List Sl) (enc : α → D) (p : α → Bool) (e : α → D) (xs : List α) (hs : src ρ = .ok S ρ) (hi : S.items = xs.map enc) (hw : wipeR vs ρ = ρ0) (hst : S.still ρ0) (hu : unwipe vs ρ ρ0 = ρ) (hl : xs.length ≤ LIM)
    (hx : ∀ x ∈ xs, ∃ ρx, setT tg (enc x) ρ0 = some ρx ∧ c ρx = .ok (p x) ρx ∧ (p x = true → elt ρx = .ok (e x) ρx) ∧ wipeR vs ρx = ρ0) : oComp tg c elt vs src ρ = .ok ((xs.filter p).map e) ρ := oComp_pure enc p e xs hs hi hw hst hu hl hx
theorem stepM_mem {α : Type} {le : α → α → Bool} {kept : List α} {x y : α} (h : y ∈ stepM le kept x) : y ∈ kept ∨ y = x := by
  unfold stepM at h
  split at h
  · exact .inl h
  · rcases List.mem_append.mp h with h | h
    · exact .inl (List.mem_filter.mp h).1
    · exact .inr (List.mem_singleton.mp h)
theorem loop_max {α : Type} (P : α → Prop) (enc : α → D) (le : α → α → Bool) (g1 : EM D) (c2 : EM Bool) (g0 : Sl) (rest : List Sl)
    (hE : ∀ k x y, P x → P y → g1 (g0 :: k :: .fz (enc x) :: .fz (enc y) :: rest) = .ok (.bl (le x y)) (g0 :: k :: .fz (enc x) :: .fz (enc y) :: rest))
    (hC : ∀ k x y, P x → P y → c2 (g0 :: k :: .fz (enc x) :: .fz (enc y) :: rest) = .ok (!le y x) (g0 :: k :: .fz (enc x) :: .fz (enc y) :: rest)) :
    ∀ (xs kept : List α) (s : Sl), keepF s = s → (∀ x ∈ xs, P x) → (∀ x ∈ kept, P x) → kept.length + xs.length < LIM → ∃ s', keepF s' = s' ∧ forD (.nm 2) (sIf (tNot' ((eBlt gAny (aCons (eFz (oComp (.nm 3) (EM.ret true) g1 [3] (iVar 1))) aNil)).bind toB)) (sSeq (sAsgO 1 (oComp (.nm 3) c2 (eVar 3) [3] (iVar 1))) (sApp 1 (aCons (eVar 2) aNil))) sNil) (xs.map enc) (g0 :: .ow (kept.map enc) :: s :: .no :: rest) =
      .ok .nx (g0 :: .ow ((xs.foldl (stepM le) kept).map enc) :: s' :: .no :: rest)
  | [], kept, s, hk, _, _, _ => ⟨s, hk, rfl⟩
  | x :: xs, kept, s, hk, hp, hq, hl => by
    rw [List.length_cons] at hl
    have h2 := stepM_len le kept x
    obtain ⟨s', hk', ih⟩ := loop_max P enc le g1 c2 g0 rest hE hC xs (stepM le kept x) (.fz (enc x)) rfl (fun y hy => hp y (List.mem_cons_of_mem _ hy)) (fun y hy => by
      rcases stepM_mem hy with h | h
      · exact hq y h
      · rw [h]; exact hp x (List.mem_cons_self ..)) (by omega)
    refine ⟨s', hk', ?_⟩
    rw [List.foldl_cons, ← ih, List.map_cons]
    conv => lhs; unfold forD
    have ha := any_comp (tg := .nm 3) (elt := g1) (vs := [3]) (src := iVar 1) (S := .sl 1 (kept.map enc)) (ρ := g0 :: .ow (kept.map enc) :: .fz (enc x) :: .no :: rest) (g0 :: .ow (kept.map enc) :: .fz (enc x) :: .no :: rest) enc (le x) kept rfl rfl rfl (.inl rfl) rfl (by omega) fun y _ => ⟨_, rfl, hE _ x y (hp x (List.mem_cons_self ..)) (hq y (by assumption)), rfl⟩
    have hc := oComp_pure0 (tg := .nm 3) (c := c2) (elt := eVar 3) (vs := [3]) (src := iVar 1) (S := .sl 1 (kept.map enc)) (ρ := g0 :: .ow (kept.map enc) :: .fz (enc x) :: .no :: rest) (g0 :: .ow (kept.map enc) :: .fz (enc x) :: .no :: rest) enc (fun y => !le y x) enc kept rfl rfl rfl (.inl rfl) rfl (by omega) fun y _ => ⟨_, rfl, hC _ x y (hp x (List.mem_cons_self ..)) (hq y (by assumption)), fun _ => rfl, rfl⟩
    have hk := List.length_filter_le (fun o => !le o x) kept
    show stepF ((sIf _ _ _) (g0 :: .ow (kept.map enc) :: .fz (enc x) :: .no :: rest)) _ = _
    rw [x_if, x_tnot, ha]
    unfold stepM
    cases z : kept.any (le x) with
    | true => rfl
    | false =>
      show stepF ((sSeq _ _) (g0 :: .ow (kept.map enc) :: .fz (enc x) :: .no :: rest)) _ = _
      rw [x_seq, x_asgO, hc]
      show stepF (sApp 1 (aCons (eVar 2) aNil) (g0 :: .ow ((kept.filter fun o => !le o x).map enc) :: .fz (enc x) :: .no :: rest)) _ = _
      have e : sApp 1 (aCons (eVar 2) aNil) (g0 :: .ow ((kept.filter fun o => !le o x).map enc) :: .fz (enc x) :: .no :: rest) = .ok .nx (g0 :: .ow ((kept.filter (fun o => !le o x) ++ [x]).map enc) :: .fz (enc x) :: .no :: rest) := by
        have hz : ((kept.filter fun o => !le o x).map enc).length < LIM := by rw [List.length_map]; omega
        show (if _ < LIM then _ else _) = _
        rw [if_pos hz, List.map_append]
        rfl
      rw [e]
      rfl
end Wk

set_option Elab.async false
set_option linter.all false
set_option maxRecDepth 100000
set_option maxHeartbeats 4000000
/-! PL3: comprehensions of two clauses, putting in order. -/
namespace Wk
open PySem DL L2
theorem compD_pureA {α : Type} {still : List Sl → Prop} {tg : Tg} {c : EM Bool} {elt : EM D} {vs : List Nat} {enc : α → D} {p : α → Bool} {e : α → D} {ρ : List Sl} {ds : List D} {xs : List α} (acc : List D) (hi : ds = xs.map enc) (hst : still ρ)
    (h : ∀ x ∈ xs, ∃ ρx, setT tg (enc x) ρ = some ρx ∧ c ρx = .ok (p x) ρx ∧ (p x = true → elt ρx = .ok (e x) ρx) ∧ wipeR vs ρx = ρ) : compD still tg c elt vs ds acc ρ = .ok (acc ++ (xs.filter p).map e) ρ := by
  subst hi
  exact compD_pure hst xs acc h
theorem comp2D_pure {α β : Type} {still : List Sl → Prop} {tg tg1 : Tg} {c c1 : EM Bool} {src1 : EM Src} {elt : EM D} {vs vs1 : List Nat} {encA : α → D} {encB : β → D} {ys : α → List β} {p : α → β → Bool} {e : α → β → D} {ρ : List Sl} (hst : still ρ) :
    ∀ (xs : List α) (acc : List D), (∀ x ∈ xs, ∃ ρx S1 ρ1, setT tg (encA x) ρ = some ρx ∧ c ρx = .ok true ρx ∧ src1 ρx = .ok S1 ρx ∧ S1.items = (ys x).map encB ∧ wipeR vs1 ρx = ρ1 ∧ S1.still ρ1 ∧
      (∀ y ∈ ys x, ∃ ρy, setT tg1 (encB y) ρ1 = some ρy ∧ c1 ρy = .ok (p x y) ρy ∧ (p x y = true → elt ρy = .ok (e x y) ρy) ∧ wipeR vs1 ρy = ρ1) ∧ wipeR vs ρ1 = ρ) →
      comp2D still tg c src1 tg1 c1 elt vs vs1 (xs.map encA) acc ρ = .ok (acc ++ xs.flatMap fun x => ((ys x).filter (p x)).map (e x)) ρ
  | [], acc, _ => by
    unfold comp2D
    simp [hst]
  | x :: xs, acc, hx => by
    obtain ⟨ρx, S1, ρ1, h1, h2, h3, h4, h5, h6, h7, h8⟩ := hx x (List.mem_cons_self ..)
    have ih := fun acc => comp2D_pure hst xs acc fun y hy => hx y (List.mem_cons_of_mem _ hy)
    rw [List.map_cons]
    unfold comp2D
    rw [if_pos hst, h1]
    show (c ρx).bindN _ = _
    rw [h2]
    show (src1 ρx).bindN _ = _
    rw [h3]
    show (compD S1.still tg1 c1 elt vs1 S1.items acc (wipeR vs1 ρx)).bindN _ = _
    rw [h5, compD_pureA acc h4 h6 h7]
    show comp2D _ _ _ _ _ _ _ _ _ _ _ (wipeR vs ρ1) = _
    rw [h8, ih, List.flatMap_cons, List.append_assoc]
theorem oComp2_pure {α β : Type} {tg tg1 : Tg} {c c1 : EM Bool} {src src1 : EM Src} {elt : EM D} {vs vs1 : List Nat} {S : Src} {ρ : List Sl} (ρ0 : List Sl) (encA : α → D) (encB : β → D) (ys : α → List β) (p : α → β → Bool) (e : α → β → D) (xs : List α) (hs : src ρ = .ok S ρ) (hi : S.items = xs.map encA) (hw : wipeR vs ρ = ρ0) (hst : S.still ρ0) (hu : unwipe vs ρ ρ0 = ρ)
    (hl : (xs.flatMap fun x => ((ys x).filter (p x)).map (e x)).length ≤ LIM)
    (hx : ∀ x ∈ xs, ∃ ρx S1 ρ1, setT tg (encA x) ρ0 = some ρx ∧ c ρx = .ok true ρx ∧ src1 ρx = .ok S1 ρx ∧ S1.items = (ys x).map encB ∧ wipeR vs1 ρx = ρ1 ∧ S1.still ρ1 ∧
      (∀ y ∈ ys x, ∃ ρy, setT tg1 (encB y) ρ1 = some ρy ∧ c1 ρy = .ok (p x y) ρy ∧ (p x y = true → elt ρy = .ok (e x y) ρy) ∧ wipeR vs1 ρy = ρ1) ∧ wipeR vs ρ1 = ρ0) :
    oComp2 tg c src1 tg1 c1 elt vs vs1 src ρ = .ok (xs.flatMap fun x => ((ys x).filter (p x)).map (e x)) ρ := by
  unfold oComp2
  show (src ρ).bind _ = _
  rw [hs]
  show (match comp2D S.still tg c src1 tg1 c1 elt vs vs1 S.items [] (wipeR vs ρ) with
    | .ok ds ρ' => if ds.length ≤ LIM then R.ok ds (unwipe vs ρ ρ') else R.bad
    | _ => R.bad) = _
  rw [hw, hi, comp2D_pure hst xs [] hx]
  show (if (([] : List D) ++ _).length ≤ LIM then R.ok _ (unwipe vs ρ ρ0) else R.bad) = _
  rw [hu, List.nil_append, if_pos hl]
/-! ### putting in order -/
def insL {α : Type} (lt : α → α → Bool) (x : α) (l : List α) : List α := l.takeWhile (fun y => lt y x) ++ [x] ++ l.dropWhile (fun y => lt y x)
def sortL {α : Type} (lt : α → α → Bool) (xs : List α) : List α := xs.foldl (fun l x => insL lt x l) []
theorem take_tw {α : Type} (p : α → Bool) : ∀ l : List α, l.take (l.takeWhile p).length = l.takeWhile p ∧ l.drop (l.takeWhile p).length = l.dropWhile p
  | [] => ⟨rfl, rfl⟩
  | x :: l => by
    obtain ⟨h1, h2⟩ := take_tw p l
    cases z : p x with
    | true => simp [z, h1, h2]
    | false => simp [z]
theorem tw_le {α : Type} (p : α → Bool) (l : List α) : (l.takeWhile p).length ≤ l.length := by
  have := congrArg List.length (take_tw p l).1
  rw [List.length_take] at this
  omega
def ltAt {α : Type} (q : α → Bool) (l : List α) (i : Nat) : Bool := match l[i]? with
  | some y => q y
  | none => false
theorem while_ins {α : Type} {c : EM Bool} {body : EM Fl} (st : Nat → List Sl) (q : α → Bool) (l : List α) (hc : ∀ i, c (st i) = .ok (ltAt q l i) (st i)) (hb : ∀ i, body (st i) = .ok .nx (st (i + 1))) :
    ∀ n i, i ≤ l.length → l.length - i < n → whileD c body n (st i) = .ok .nx (st (i + ((l.drop i).takeWhile q).length))
  | 0, i, _, h => by omega
  | n + 1, i, hi, h => by
    unfold whileD
    rw [hc]
    show (if ltAt q l i = true then stepF (body (st i)) (whileD c body n) else R.ok Fl.nx (st i)) = _
    unfold ltAt
    by_cases hlt : i < l.length
    · rw [List.getElem?_eq_getElem hlt, List.drop_eq_getElem_cons hlt]
      dsimp only
      by_cases z : q l[i] = true
      · rw [if_pos z, hb]
        show whileD c body n (st (i + 1)) = _
        rw [while_ins st q l hc hb n (i + 1) hlt (by omega), List.takeWhile_cons_of_pos z, List.length_cons]
        congr 2
        omega
      · rw [if_neg z, List.takeWhile_cons_of_neg z]
        rfl
    · have e : i = l.length := by omega
      subst e
      rw [List.getElem?_eq_none (Nat.le_refl _), List.drop_length]
      dsimp only
      rw [if_neg Bool.false_ne_true]
      rfl
theorem insL_len {α : Type} (lt : α → α → Bool) (x : α) (l : List α) : (insL lt x l).length = l.length + 1 := by
  unfold insL
  have h : l.takeWhile (fun y => lt y x) ++ l.dropWhile (fun y => lt y x) = l := List.takeWhile_append_dropWhile
  have h2 := congrArg List.length h
  rw [List.length_append] at h2
  rw [List.length_append, List.length_append, List.length_singleton]
  omega
theorem insL_mem {α : Type} {lt : α → α → Bool} {x y : α} {l : List α} (h : y ∈ insL lt x l) : y ∈ l ∨ y = x := by
  unfold insL at h
  rcases List.mem_append.mp h with h | h
  · rcases List.mem_append.mp h with h | h
    · exact .inl ((List.takeWhile_prefix _).subset h)
    · exact .inr (List.mem_singleton.mp h)
  · exact .inl ((List.dropWhile_suffix _).subset h)
theorem loop_ins' {α : Type} {P : α → Prop} {c : EM Bool} {body ins : EM Fl} {jx ja : Nat} (enc : α → D) (lt : α → α → Bool) (st : List α → Sl → Sl → List Sl) (hx : ∀ l s t e, (st l s t).set jx e = st l e t) (ha : ∀ l s t e, (st l s t).set ja e = st l s e)
    (hc : ∀ l x (i : Nat), l.length < LIM → P x → (∀ y ∈ l, P y) → c (st l (.fz (enc x)) (.fz (.int i))) = .ok (ltAt (fun y => lt y x) l i) (st l (.fz (enc x)) (.fz (.int i))))
    (hb : ∀ l x (i : Nat), body (st l (.fz (enc x)) (.fz (.int i))) = .ok .nx (st l (.fz (enc x)) (.fz (.int ((i + 1 : Nat) : Int)))))
    (hi : ∀ l x (i : Nat), l.length < LIM → i ≤ l.length → ins (st l (.fz (enc x)) (.fz (.int i))) = .ok .nx (st (l.take i ++ [x] ++ l.drop i) (.fz (enc x)) (.fz (.int i)))) :
    ∀ (xs : List α) (l : List α) (s t : Sl), (∀ x ∈ xs, P x) → (∀ x ∈ l, P x) → l.length + xs.length < LIM → ∃ s' t', forD (.nm jx) (sSeq (sAsg ja (EM.ret (.int 0))) (sSeq (whileD c body LIM) ins)) (xs.map enc) (st l s t) = .ok .nx (st (xs.foldl (fun l x => insL lt x l) l) s' t')
  | [], l, s, t, _, _, _ => ⟨s, t, rfl⟩
  | x :: xs, l, s, t, hp, hq, hl => by
    rw [List.length_cons] at hl
    obtain ⟨s', t', ih⟩ := loop_ins' enc lt st hx ha hc hb hi xs (insL lt x l) (.fz (enc x)) (.fz (.int ((l.takeWhile fun y => lt y x).length : Nat))) (fun y hy => hp y (List.mem_cons_of_mem _ hy)) (fun y hy => by
      rcases insL_mem hy with h | h
      · exact hq y h
      · rw [h]; exact hp x (List.mem_cons_self ..)) (by rw [insL_len]; omega)
    refine ⟨s', t', ?_⟩
    rw [List.foldl_cons, ← ih, List.map_cons]
    conv => lhs; unfold forD
    rw [x_setT1, hx]
    show stepF ((sSeq (sAsg ja (EM.ret (.int 0))) (sSeq (whileD c body LIM) ins)) (st l (.fz (enc x)) t)) _ = _
    have h1 : sAsg ja (EM.ret (.int 0)) (st l (.fz (enc x)) t) = .ok .nx (st l (.fz (enc x)) (.fz (.int ((0 : Nat) : Int)))) := by
      rw [x_asg, x_ret, x_rok, ha]
      rfl
    have h2 := while_ins (c := c) (body := body) (fun i => st l (.fz (enc x)) (.fz (.int (i : Nat)))) (fun y => lt y x) l (fun i => hc l x i (by omega) (hp x (List.mem_cons_self ..)) hq) (fun i => hb l x i) LIM 0 (Nat.zero_le _) (by omega)
    have h3 := hi l x ((l.takeWhile fun y => lt y x).length) (by omega) (tw_le _ _)
    rw [x_seq, h1]
    show stepF (sSeq (whileD c body LIM) ins (st l (.fz (enc x)) (.fz (.int ((0 : Nat) : Int))))) _ = _
    rw [x_seq, h2, List.drop_zero, Nat.zero_add]
    show stepF (ins (st l (.fz (enc x)) (.fz (.int ((l.takeWhile fun y => lt y x).length : Nat))))) _ = _
    rw [h3, (take_tw _ l).1, (take_tw _ l).2]
    rfl
end Wk

set_option Elab.async false
set_option linter.all false
set_option maxRecDepth 100000
set_option maxHeartbeats 4000000
/-! PL4: the normal form of forms, computed. -/
namespace Wk
open PySem DL L2
def kds : List Kd := [.number, .lag, .length, .none]
def gParts (g : List Pt) : List Pt := kds.flatMap fun k => (maxs pLe g).filter fun y => y.1 == k
theorem flat4 {α β γ : Type} (f : α → β → Bool) (e : β → γ) (l : List β) (a b c d : α) : (([a, b, c, d] : List α).flatMap fun x => (l.filter (f x)).map e).length ≤ 4 * l.length := by
  have h := fun x => List.length_filter_le (f x) l
  have h1 := h a
  have h2 := h b
  have h3 := h c
  have h4 := h d
  simp only [List.flatMap_cons, List.flatMap_nil, List.length_append, List.length_map, List.length_nil]
  omega
def lGroups (gs : List (List Pt)) : List (List Pt) := maxs (fun a b => gLeG b a) gs
/-- rank -/
def rk (p : Pt) : Int × Int := (p.1.n, p.2)
def eI (p : Int × Int) : D := .tup [.int p.1, .int p.2]
def eR (l : List (Int × Int)) : D := .tup (l.map eI)
end Wk

set_option Elab.async false
set_option linter.all false
set_option maxRecDepth 100000
set_option maxHeartbeats 4000000
/-! PL5: < of ranks. -/
namespace Wk
open PySem DL L2
def ltR : List (Int × Int) → List (Int × Int) → Bool
  | [], [] => false
  | [], _ :: _ => true
  | _ :: _, [] => false
  | x :: xs, y :: ys => decide (x.1 < y.1) || (!decide (y.1 < x.1) && (decide (x.2 < y.2) || (!decide (y.2 < x.2) && ltR xs ys)))
theorem ltR_cons (x y : Int × Int) (xs ys : List (Int × Int)) : ltR (x :: xs) (y :: ys) = (decide (x.1 < y.1) || (!decide (y.1 < x.1) && (decide (x.2 < y.2) || (!decide (y.2 < x.2) && ltR xs ys)))) := rfl
def pyI (p : Int × Int) : PyData := .tuple [.int p.1, .int p.2]
theorem toPy_eI (p : Int × Int) : toPy (eI p) = some (pyI p) := by
  simp [eI, pyI, toPy, toPys]
theorem toPys_eI : ∀ xs : List (Int × Int), toPys (xs.map eI) = some (xs.map pyI)
  | [] => by simp [toPys]
  | x :: xs => by
    rw [List.map_cons, List.map_cons]
    unfold toPys
    rw [toPy_eI, toPys_eI xs]
theorem toPy_eR (xs : List (Int × Int)) : toPy (eR xs) = some (.tuple (xs.map pyI)) := by
  unfold eR toPy
  rw [toPys_eI]
  rfl
theorem alike_pyI (x y : Int × Int) : PySem.W.alike (pyI x) (pyI y) = true := by
  simp [pyI, PySem.W.alike, PySem.W.alikeAll]
theorem alikeAll_pyI : ∀ xs ys : List (Int × Int), PySem.W.alikeAll (xs.map pyI) (ys.map pyI) = true
  | [], _ => by simp [PySem.W.alikeAll]
  | _ :: _, [] => by simp [PySem.W.alikeAll]
  | x :: xs, y :: ys => by
    rw [List.map_cons, List.map_cons]
    unfold PySem.W.alikeAll
    rw [alike_pyI, alikeAll_pyI xs ys]
    rfl
theorem depth_pyI (x : Int × Int) : (pyI x).depth ≤ 3 := by
  simp [pyI, PyData.depth, PyData.depthAll]
theorem depthAll_pyI : ∀ xs : List (Int × Int), PyData.depthAll (xs.map pyI) ≤ 10
  | [] => by simp [PyData.depthAll]
  | x :: xs => by
    have h1 := depth_pyI x
    have h2 := depthAll_pyI xs
    rw [List.map_cons]
    unfold PyData.depthAll
    omega
theorem toks_pyI (x : Int × Int) (xs : List PyData) : PySem.W.keyToksAll (pyI x :: xs) = .inl 1 :: .inl 1 :: .inl x.1 :: .inl 1 :: .inl x.2 :: .inl 0 :: PySem.W.keyToksAll xs := by
  simp [pyI, PySem.W.keyToksAll, PySem.W.keyToks]
theorem lx (a b : Int) (r t : List (Int ⊕ List Nat)) : PyProof.Rows.lexLt PyProof.Rows.itemOrd (.inl a :: r) (.inl b :: t) = (decide (a < b) || (!decide (b < a) && PyProof.Rows.lexLt PyProof.Rows.itemOrd r t)) := rfl
theorem kt_nil : PySem.W.keyToksAll [] = [.inl 0] := rfl
theorem lex_ltR : ∀ xs ys : List (Int × Int), PyProof.Rows.lexLt PyProof.Rows.itemOrd (PySem.W.keyToksAll (xs.map pyI)) (PySem.W.keyToksAll (ys.map pyI)) = ltR xs ys
  | [], [] => rfl
  | [], y :: ys => by
    rw [List.map_cons, toks_pyI, List.map_nil, kt_nil, lx]
    rfl
  | x :: xs, [] => by
    rw [List.map_cons, toks_pyI, List.map_nil, kt_nil, lx]
    rfl
  | x :: xs, y :: ys => by
    rw [List.map_cons, List.map_cons, toks_pyI, toks_pyI, lx, lx, lx, lx, lx, lx, lex_ltR xs ys]
    rw [ltR_cons]
    simp
theorem lt_eR (xs ys : List (Int × Int)) : gLtL (eR xs) (eR ys) = some (ltR xs ys) := by
  unfold gLtL
  rw [toPy_eR, toPy_eR]
  have h1 : PySem.W.alike (.tuple (xs.map pyI)) (.tuple (ys.map pyI)) = true := by
    unfold PySem.W.alike
    exact alikeAll_pyI xs ys
  have h2 : (PyData.tuple (xs.map pyI)).depth ≤ 64 := by
    have := depthAll_pyI xs
    unfold PyData.depth
    omega
  dsimp only
  rw [if_pos ⟨h1, h2⟩, PySem.W.dataLt_tuple, lex_ltR]
end Wk

set_option Elab.async false
set_option linter.all false
set_option maxRecDepth 100000
set_option maxHeartbeats 4000000
/-! PL6: forms made. -/
namespace Wk
open PySem DL L2
/-- a for whose body puts one more on an own list -/
theorem for_app {α β : Type} {i : Nat} {body : EM Fl} (encA : α → D) (encB : β → D) (f : α → β) (st : List β → Sl → List Sl) (hset : ∀ l s e, (st l s).set i (.fz e) = st l (.fz e)) :
    ∀ (xs : List α) (l : List β) (s : Sl), keepF s = s → (∀ l, l.length < LIM → ∀ x ∈ xs, body (st l (.fz (encA x))) = .ok .nx (st (l ++ [f x]) (.fz (encA x)))) → l.length + xs.length ≤ LIM → ∃ s', keepF s' = s' ∧ forD (.nm i) body (xs.map encA) (st l s) = .ok .nx (st (l ++ xs.map f) s')
  | [], l, s, hk, _, _ => ⟨s, hk, by rw [List.map_nil, List.map_nil, List.append_nil]; rfl⟩
  | x :: xs, l, s, hk, h, hl => by
    rw [List.length_cons] at hl
    obtain ⟨s', hk', ih⟩ := for_app encA encB f st hset xs (l ++ [f x]) (.fz (encA x)) rfl (fun l hl y hy => h l hl y (List.mem_cons_of_mem _ hy)) (by rw [List.length_append, List.length_singleton]; omega)
    refine ⟨s', hk', ?_⟩
    rw [List.map_cons]
    conv => lhs; unfold forD
    rw [x_setT1, hset]
    show stepF (body (st l (.fz (encA x)))) _ = _
    rw [h l (by omega) x (List.mem_cons_self ..)]
    show forD (.nm i) body (xs.map encA) (st (l ++ [f x]) (.fz (encA x))) = _
    rw [ih, List.map_cons, List.append_assoc]
    rfl
/-- a group as it comes: a tuple (true) or a list of parts -/
abbrev Raw := Bool × List Pt
def eW (g : Raw) : D := if g.1 = true then .tup (g.2.map eP) else .lst (g.2.map eP)
theorem seq_eW (g : Raw) : seqD (eW g) = some (g.2.map eP) := by
  unfold eW
  split <;> rfl
def zeroN (p : Pt) : Pt := (p.1, if p.1 = .none then 0 else p.2)
def normG (gs : List (List Pt)) : List (List Pt) := sortL (fun a b => ltR (a.map rk) (b.map rk)) (lGroups (gs.map fun g => gParts (g.map zeroN)))
theorem gParts_len (g : List Pt) (hl : g.length ≤ 200) : (gParts g).length ≤ 1000 := by
  have h := flat4 (fun (k : Kd) (y : Pt) => y.1 == k) id (maxs pLe g) .number .lag .length .none
  have hm := maxs_len pLe g []
  rw [List.length_nil] at hm
  unfold gParts
  have e : (kds.flatMap fun k => (maxs pLe g).filter fun y => y.1 == k) = (kds.flatMap fun k => ((maxs pLe g).filter fun y => y.1 == k).map id) := by
    simp
  rw [e]
  have hm : (maxs pLe g).length ≤ g.length := by unfold maxs; omega
  exact Nat.le_trans h (by omega)
theorem maxs_mem {α : Type} {le : α → α → Bool} : ∀ {xs kept : List α} {y : α}, y ∈ xs.foldl (stepM le) kept → y ∈ kept ∨ y ∈ xs
  | [], kept, y, h => .inl h
  | x :: xs, kept, y, h => by
    rw [List.foldl_cons] at h
    rcases maxs_mem h with h | h
    · rcases stepM_mem h with h | h
      · exact .inl h
      · exact .inr (by rw [h]; exact List.mem_cons_self ..)
    · exact .inr (List.mem_cons_of_mem _ h)
end Wk

set_option Elab.async false
set_option linter.all false
set_option maxRecDepth 100000
set_option maxHeartbeats 4000000
/-! PL7: what forms do, computed. -/
namespace Wk
open PySem DL L2
def eF (gs : List (List Pt)) : D := .ins "Form" ["_groups"] [.lst (gs.map eG)]
theorem tups (gs : List (List Pt)) : gs.map eG = (gs.map fun g => ((true, g) : Raw)).map eW := by
  rw [List.map_map]
  rfl
theorem lsts (gs : List (List Pt)) : (gs.map fun g => D.lst (g.map eP)) = (gs.map fun g => ((false, g) : Raw)).map eW := by
  rw [List.map_map]
  rfl
theorem snds (b : Bool) (gs : List (List Pt)) : (gs.map fun g => ((b, g) : Raw)).map (·.2) = gs := by
  rw [List.map_map]
  exact List.map_id _
theorem fld_F (gs : List (List Pt)) : fldOf "Form" "_groups" (eF gs) = some (.lst (gs.map eG)) := rfl
/-! ### Form.of(kind) -/
/-! ### the operators -/
def shiftP (m : Int) (p : Pt) : Pt := (p.1, p.2 + m)
def fLe (a b : List (List Pt)) : Bool := b.all fun u => a.any fun l => gLeG l u
end Wk

set_option Elab.async false
set_option linter.all false
set_option maxRecDepth 100000
set_option maxHeartbeats 4000000
/-! PL8: forms: equality, numbers. -/
namespace Wk
open PySem DL L2
def pyP (p : Pt) : PyData := .tuple [.str p.1.s, .int p.2]
def pyG (g : List Pt) : PyData := .tuple (g.map pyP)
theorem toPy_eP (p : Pt) : toPy (eP p) = some (pyP p) := by
  simp [eP, pyP, toPy, toPys]
theorem toPys_map {α : Type} (e : α → D) (f : α → PyData) (h : ∀ x, toPy (e x) = some (f x)) : ∀ xs : List α, toPys (xs.map e) = some (xs.map f)
  | [] => by simp [toPys]
  | x :: xs => by
    rw [List.map_cons, List.map_cons]
    unfold toPys
    rw [h, toPys_map e f h xs]
theorem toPy_eG (g : List Pt) : toPy (eG g) = some (pyG g) := by
  unfold eG toPy
  rw [toPys_map eP pyP toPy_eP]
  rfl
theorem lay_all {α : Type} (f : α → PyData) (h : ∀ x, (f x).canLay0 = true) : ∀ xs : List α, PyData.canLayAll0 (xs.map f) = true
  | [] => by simp [PyData.canLayAll0]
  | x :: xs => by
    rw [List.map_cons]
    unfold PyData.canLayAll0
    rw [h, lay_all f h xs]
    rfl
theorem dep_all {α : Type} (f : α → PyData) (n : Nat) (h : ∀ x, (f x).depth ≤ n) : ∀ xs : List α, PyData.depthAll (xs.map f) ≤ n
  | [] => by simp [PyData.depthAll]
  | x :: xs => by
    rw [List.map_cons]
    unfold PyData.depthAll
    have h1 := h x
    have h2 := dep_all f n h xs
    omega
theorem lay_K (k : Kd) : PyData.strOk k.s = true := by cases k <;> decide +kernel
theorem lay_P (p : Pt) : (pyP p).canLay0 = true := by simp [pyP, PyData.canLay0, PyData.canLayAll0, lay_K]
theorem lay_G (g : List Pt) : (pyG g).canLay0 = true := by
  unfold pyG PyData.canLay0
  exact lay_all pyP lay_P g
theorem dep_P (p : Pt) : (pyP p).depth ≤ 5 := by simp [pyP, PyData.depth, PyData.depthAll]
theorem dep_G (g : List Pt) : (pyG g).depth ≤ 10 := by
  unfold pyG PyData.depth
  have := dep_all pyP 5 dep_P g
  omega
theorem eq_groups (a : List (List Pt)) : gEq (.lst (a.map eG)) (.lst (a.map eG)) = some true := by
  have h : toPy (.lst (a.map eG)) = some (.list (a.map pyG)) := by
    unfold toPy
    rw [toPys_map eG pyG toPy_eG]
    rfl
  have hl : (PyData.list (a.map pyG)).canLay0 = true := by
    unfold PyData.canLay0
    exact lay_all pyG lay_G a
  have hd : (PyData.list (a.map pyG)).depth ≤ 64 := by
    unfold PyData.depth
    have := dep_all pyG 10 dep_G a
    omega
  have hs : PySem.SeqAt.shaped (.list (a.map pyG)) = true := by
    unfold PySem.SeqAt.shaped
    rw [hl, decide_eq_true hd]
    rfl
  have e : gEqL (.lst (a.map eG)) (.lst (a.map eG)) = some true := by
    unfold gEqL
    rw [h]
    dsimp only
    rw [if_pos ⟨hs, hs⟩, PySem.SeqAt.eqv_refl _ hl]
  unfold gEq
  exact e
/-! ### numbers -/
def eO : Option Int → D
  | some i => .int i
  | none => .non
@[simp] theorem eO_some (i : Int) : eO (some i) = .int i := rfl
@[simp] theorem eO_none : eO none = .non := rfl
def pNum (lag len : Option Int) (p : Pt) : Option Int := match p.1 with
  | .number => some p.2
  | .none => none
  | .lag => lag.map (· + p.2)
  | .length => lag.bind fun a => len.map fun b => a + b + p.2
def gNumF (lag len : Option Int) (acc : Option Int) (p : Pt) : Option Int := acc.bind fun b => (pNum lag len p).map fun n => if b < n then n else b
def gNum (lag len : Option Int) (g : List Pt) : Option Int := g.foldl (gNumF lag len) (some 0)
theorem gNum_none (lag len : Option Int) : ∀ g : List Pt, g.foldl (gNumF lag len) none = none
  | [] => rfl
  | p :: g => by rw [List.foldl_cons]; exact gNum_none lag len g
def fNumF (lag len : Option Int) (acc : Option Int) (g : List Pt) : Option Int := match gNum lag len g, acc with
  | some n, some l => some (if n < l then n else l)
  | some n, none => some n
  | none, l => l
def fNum (lag len : Option Int) (gs : List (List Pt)) : Option Int := gs.foldl (fNumF lag len) none
end Wk

set_option Elab.async false
set_option linter.all false
set_option maxRecDepth 100000
set_option maxHeartbeats 4000000
/-! PL9: terms and clauses, computed. -/
namespace Wk
open PySem DL L2
inductive Mk | zero | calm | owed | done | end_ | own | got
deriving DecidableEq
def Mk.s : Mk → Str
  | .zero => "zero" | .calm => "calm" | .owed => "owed" | .done => "done" | .end_ => "end" | .own => "own" | .got => "got"
def Mk.n : Mk → Nat
  | .zero => 0 | .calm => 1 | .owed => 2 | .done => 3 | .end_ => 4 | .own => 5 | .got => 6
def mks : List Mk := [.zero, .calm, .owed, .done, .end_, .own, .got]
abbrev Tm := Mk × Int
def eT (t : Tm) : D := .tup [.str t.1.s, .int t.2]
def eC (c : List Tm) : D := .tup (c.map eT)
def Mk.below : Mk → Mk → Bool
  | .zero, _ => true
  | .calm, .calm => true | .calm, .owed => true | .calm, .done => true | .calm, .end_ => true
  | .owed, .owed => true | .owed, .done => true | .owed, .end_ => true
  | .done, .done => true | .done, .end_ => true
  | .end_, .end_ => true
  | .own, .own => true | .own, .got => true | .own, .end_ => true
  | .got, .got => true | .got, .end_ => true
  | _, _ => false
@[simp] theorem idx_m (k : Mk) : idxS k.s t_MARKS = some k.n := by cases k <;> decide +kernel
@[simp] theorem eq_mk (k : Mk) (l : Mk) : gEq (.str k.s) (.str l.s) = some (k == l) := by cases k <;> cases l <;> decide +kernel
@[simp] theorem eq_m0 (k : Mk) : gEq (.str k.s) (.str "zero") = some (k == .zero) := eq_mk k .zero
@[simp] theorem eq_m1 (k : Mk) : gEq (.str k.s) (.str "calm") = some (k == .calm) := eq_mk k .calm
@[simp] theorem eq_m2 (k : Mk) : gEq (.str k.s) (.str "owed") = some (k == .owed) := eq_mk k .owed
@[simp] theorem eq_m3 (k : Mk) : gEq (.str k.s) (.str "done") = some (k == .done) := eq_mk k .done
@[simp] theorem eq_m4 (k : Mk) : gEq (.str k.s) (.str "end") = some (k == .end_) := eq_mk k .end_
def aboveD (k : Mk) : D := ((tD_ABOVE.lookup k.s).getD .non)
theorem look_above (k : Mk) : tD_ABOVE.lookup k.s = some (aboveD k) := by cases k <;> rfl
theorem in_above (k l : Mk) : gIn (.str l.s) (aboveD k) = some (k.below l) := by cases k <;> cases l <;> decide +kernel
theorem c_stands_below (k l : Mk) : callRes0 f_stands_below [.str k.s, .str l.s] = EM.ret (.bl (k.below l)) := by
  apply callF (by rfl)
  unfold b_stands_below eTab
  simp [look_above, in_above]
theorem c_sum_of (a b : Option Int) : callRes0 f_sum_of [eO a, eO b] = EM.ret (eO (a.bind fun x => b.map fun y => x + y)) := by
  apply callF (by rfl)
  unfold b_sum_of
  cases a <;> cases b <;> simp
def mGap (u l : Mk) (lag len : Option Int) : Option Int :=
  if u.below l = true then some 0 else if l = .done then lag else if l = .owed then (if u = .done then len else lag.bind fun x => len.map fun y => x + y) else none
theorem c_mark_gap (u l : Mk) (lag len : Option Int) : callRes0 f_mark_gap [.str u.s, .str l.s, eO lag, eO len] = EM.ret (eO (mGap u l lag len)) := by
  apply callF (by rfl)
  unfold b_mark_gap mGap
  have hb := c_stands_below u l
  generalize u.below l = q at hb ⊢
  cases q with
  | true => simp [hb]
  | false =>
    by_cases h2 : l = .done
    · subst h2
      simp [hb]
    · by_cases h3 : l = .owed
      · subst h3
        by_cases h4 : u = .done
        · subst h4
          simp [hb]
        · simp [hb, h4, c_sum_of]
      · simp [hb, h2, h3]
def tLe (lag len : Option Int) (a b : Tm) : Bool := a.1 == .zero || (match mGap a.1 b.1 lag len with
  | some g => decide (g ≤ a.2 - b.2)
  | none => false)
theorem c_term_at_most (lag len : Option Int) (a b : Tm) : callRes0 f_term_at_most [eT a, eT b, eO lag, eO len] = EM.ret (.bl (tLe lag len a b)) := by
  obtain ⟨m, i⟩ := a
  obtain ⟨l, j⟩ := b
  apply callF (by rfl)
  unfold b_term_at_most tLe
  by_cases h : m = .zero
  · subst h
    simp [eT]
  · cases z : mGap m l lag len with
    | none => simp [eT, h, c_mark_gap, z]
    | some g => simp [eT, h, c_mark_gap, z]
def cLe (lag len : Option Int) (a b : List Tm) : Bool := b.all fun u => a.any fun l => tLe lag len l u
theorem c_clause_at_most (lag len : Option Int) (a b : List Tm) (ha : a.length ≤ 1000) : callRes0 f_clause_at_most [eC a, eC b, eO lag, eO len] = EM.ret (.bl (cLe lag len a b)) := by
  apply callF (by rfl)
  unfold b_clause_at_most
  obtain ⟨s', h⟩ := for_all (i := 4) (d := .bl false) (c := ((eBlt gAny (aCons (eFz (oComp (.nm 5) (EM.ret true) (eCall0 f_term_at_most (aCons (eVar 5) (aCons (eVar 4) (aCons (eVar 2) (aCons (eVar 3) aNil))))) [5] (iVar 0))) aNil)).bind toB)) eT (fun u => a.any fun l => tLe lag len l u) (fun s => [.fz (eC a), .fz (eC b), .fz (eO lag), .fz (eO len), s, .no]) (fun _ _ => rfl) b .no fun u hu =>
    any_comp (S := .fz (a.map eT)) [.fz (eC a), .fz (eC b), .fz (eO lag), .fz (eO len), .fz (eT u), .no] eT (fun l => tLe lag len l u) a rfl rfl rfl trivial rfl (by rw [LIM_eq]; omega) fun l _ => ⟨_, rfl, by simp [c_term_at_most], rfl⟩
  show ans (sSeq _ _ [.fz (eC a), .fz (eC b), .fz (eO lag), .fz (eO len), .no, .no]) = _
  rw [x_seq, for_var (d := eC b) 1 rfl rfl]
  show ans (match forD _ _ (b.map eT) [.fz (eC a), .fz (eC b), .fz (eO lag), .fz (eO len), .no, .no] with
    | .ok .nx ρ' => sRet (EM.ret (.bl true)) ρ'
    | r => r) = _
  rw [h]
  unfold cLe
  cases (b.all fun u => a.any fun l => tLe lag len l u) <;> rfl
def csLe (lag len : Option Int) (a b : List (List Tm)) : Bool := a.all fun x => b.any fun y => cLe lag len x y
theorem c_clauses_at_most (lag len : Option Int) (a b : List (List Tm)) (ha : ∀ c ∈ a, c.length ≤ 1000) (hb : b.length ≤ 1000) : callRes0 f_clauses_at_most [.lst (a.map eC), .lst (b.map eC), eO lag, eO len] = EM.ret (.bl (csLe lag len a b)) := by
  apply callF (by rfl)
  unfold b_clauses_at_most
  obtain ⟨s', h⟩ := for_all (i := 4) (d := .bl false) (c := ((eBlt gAny (aCons (eFz (oComp (.nm 5) (EM.ret true) (eCall0 f_clause_at_most (aCons (eVar 4) (aCons (eVar 5) (aCons (eVar 2) (aCons (eVar 3) aNil))))) [5] (iVar 1))) aNil)).bind toB)) eC (fun x => b.any fun y => cLe lag len x y) (fun s => [.fz (.lst (a.map eC)), .fz (.lst (b.map eC)), .fz (eO lag), .fz (eO len), s, .no]) (fun _ _ => rfl) a .no fun x hx =>
    any_comp (S := .fz (b.map eC)) [.fz (.lst (a.map eC)), .fz (.lst (b.map eC)), .fz (eO lag), .fz (eO len), .fz (eC x), .no] eC (fun y => cLe lag len x y) b rfl rfl rfl trivial rfl (by rw [LIM_eq]; omega) fun y _ => ⟨_, rfl, by simp [c_clause_at_most lag len x y (ha x hx)], rfl⟩
  show ans (sSeq _ _ [.fz (.lst (a.map eC)), .fz (.lst (b.map eC)), .fz (eO lag), .fz (eO len), .no, .no]) = _
  rw [x_seq, for_var (d := .lst (a.map eC)) 0 rfl rfl]
  show ans (match forD _ _ (a.map eC) [.fz (.lst (a.map eC)), .fz (.lst (b.map eC)), .fz (eO lag), .fz (eO len), .no, .no] with
    | .ok .nx ρ' => sRet (EM.ret (.bl true)) ρ'
    | r => r) = _
  rw [h]
  unfold csLe
  cases (a.all fun x => b.any fun y => cLe lag len x y) <;> rfl
/-! ### normal form of a rule -/
def tGe (a b : Tm) : Bool := tLe none none b a
def sTerms (c : List Tm) : List Tm := mks.flatMap fun m => (maxs tGe c).filter fun t => t.1 == m
theorem flat7 {α β γ : Type} (f : α → β → Bool) (e : β → γ) (l : List β) (a b c d p q r : α) : (([a, b, c, d, p, q, r] : List α).flatMap fun x => (l.filter (f x)).map e).length ≤ 7 * l.length := by
  have h := fun x => List.length_filter_le (f x) l
  have h1 := h a
  have h2 := h b
  have h3 := h c
  have h4 := h d
  have h5 := h p
  have h6 := h q
  have h7 := h r
  simp only [List.flatMap_cons, List.flatMap_nil, List.length_append, List.length_map, List.length_nil]
  omega
theorem maxs_le {α : Type} (le : α → α → Bool) (l : List α) : (maxs le l).length ≤ l.length := by
  have := maxs_len le l []
  rw [List.length_nil] at this
  unfold maxs
  omega
theorem c_smallest (c : List Tm) (cD : D) (hc : seqD cD = some (c.map eT)) (hl : c.length ≤ 1000) : callRes0 f_smallest [cD] = EM.ret (eC (sTerms c)) := by
  apply callF (by rfl)
  unfold b_smallest
  obtain ⟨s', hk, h⟩ := loop_max (fun _ => True) eT tGe (eCall0 f_term_at_most (aCons (eVar 3) (aCons (eVar 2) (aCons (EM.ret .non) (aCons (EM.ret .non) aNil))))) (tNot' ((eCall0 f_term_at_most (aCons (eVar 2) (aCons (eVar 3) (aCons (EM.ret .non) (aCons (EM.ret .non) aNil))))).bind toB)) (.fz cD) [.no]
    (fun k x y _ _ => by
      have := c_term_at_most none none y x
      rw [eO_none] at this
      simp [this, tGe]) (fun k x y _ _ => by
      have := c_term_at_most none none x y
      rw [eO_none] at this
      simp [this, tGe]) c [] .no rfl (fun _ _ => trivial) (fun _ _ => trivial) (by rw [LIM_eq, List.length_nil]; omega)
  have hm := maxs_le tGe c
  show ans (sSeq _ _ [.fz cD, .ow ([].map eT), .no, .no, .no]) = _
  rw [x_seq, for_var 0 rfl hc, h]
  have hcc := oComp2_pure (tg := .nm 4) (tg1 := .nm 2) (c := EM.ret true) (c1 := t2 gEq (eIxV 2 (EM.ret (.int 0))) (eVar 4)) (src := iSeq (EM.ret (.tup (t_MARKS.map .str)))) (src1 := iVar 1) (elt := eVar 2) (vs := [4, 2]) (vs1 := [2]) (S := .fz (t_MARKS.map .str)) (ρ := [.fz cD, .ow ((maxs tGe c).map eT), s', .no, .no])
    [.fz cD, .ow ((maxs tGe c).map eT), .no, .no, .no] (fun k : Mk => .str k.s) eT (fun _ => maxs tGe c) (fun k y => y.1 == k) (fun _ => eT) mks rfl rfl rfl trivial (by show [Sl.fz cD, .ow ((maxs tGe c).map eT), keepF s', .no, .no] = _; rw [hk]) (by
      have := flat7 (fun (k : Mk) (y : Tm) => y.1 == k) eT (maxs tGe c) .zero .calm .owed .done .end_ .own .got
      rw [LIM_eq]
      exact Nat.le_trans this (by omega))
    fun k _ => ⟨_, .sl 1 ((maxs tGe c).map eT), [.fz cD, .ow ((maxs tGe c).map eT), .no, .no, .fz (.str k.s)], rfl, rfl, rfl, rfl, rfl, .inl rfl, fun y _ => ⟨_, rfl, by simp [eT], fun _ => rfl, rfl⟩, rfl⟩
  show ans (sRet (eBlt gTuple (aCons (eFz (oComp2 _ _ _ _ _ _ _ _ _)) aNil)) [.fz cD, .ow ((maxs tGe c).map eT), s', .no, .no]) = _
  rw [x_sret, x_blt, x_acons, x_efz, hcc]
  show some (D.tup (mks.flatMap fun k => ((maxs tGe c).filter fun y => y.1 == k).map eT)) = _
  unfold eC sTerms
  rw [List.map_flatMap]
def lClauses (cs : List (List Tm)) : List (List Tm) := maxs (cLe none none) cs
theorem c_largest (cs : List (List Tm)) (hl : cs.length ≤ 1000) (hz : ∀ c ∈ cs, c.length ≤ 1000) : callRes0 f_largest [.lst (cs.map eC)] = EM.ret (.lst ((lClauses cs).map eC)) := by
  apply callF (by rfl)
  unfold b_largest
  obtain ⟨s', hk, h⟩ := loop_max (fun g => g.length ≤ 1000) eC (cLe none none) (eCall0 f_clause_at_most (aCons (eVar 2) (aCons (eVar 3) (aCons (EM.ret .non) (aCons (EM.ret .non) aNil))))) (tNot' ((eCall0 f_clause_at_most (aCons (eVar 3) (aCons (eVar 2) (aCons (EM.ret .non) (aCons (EM.ret .non) aNil))))).bind toB)) (.fz (.lst (cs.map eC))) []
    (fun k x y px py => by
      have := c_clause_at_most none none x y px
      rw [eO_none] at this
      simp [this]) (fun k x y px py => by
      have := c_clause_at_most none none y x py
      rw [eO_none] at this
      simp [this]) cs [] .no rfl hz (fun _ h => by cases h) (by rw [LIM_eq, List.length_nil]; omega)
  show ans (sSeq _ _ [.fz (.lst (cs.map eC)), .ow ([].map eC), .no, .no]) = _
  rw [x_seq, for_var 0 rfl rfl, h]
  rfl
def rkT (p : Tm) : Int × Int := (p.1.n, p.2)
theorem c_rank_terms (g : List Tm) (hl : g.length ≤ 1000) : callRes0 f_rank [eC g] = EM.ret (eR (g.map rkT)) := by
  apply callF (by rfl)
  unfold b_rank
  have hc := oComp_pure0 (tg := .tp [1, 2]) (c := EM.ret true) (elt := eTup (aCons (eIdx t_MARKS (eVar 1)) (aCons (eVar 2) aNil))) (vs := [1, 2]) (src := iVar 0) (S := .fz (g.map eT)) (ρ := [.fz (eC g), .no, .no]) [.fz (eC g), .no, .no] eT (fun _ => true) (fun p => eI (rkT p)) g rfl rfl rfl trivial rfl (by rw [LIM_eq]; omega)
    fun p _ => ⟨[.fz (eC g), .fz (.str p.1.s), .fz (.int p.2)], rfl, rfl, fun _ => by simp [eI, rkT], rfl⟩
  rw [List.filter_eq_self.mpr fun _ _ => rfl] at hc
  show ans (sRet (eBlt gTuple (aCons (eFz (oComp _ _ _ _ _)) aNil)) [.fz (eC g), .no, .no]) = _
  rw [x_sret, x_blt, x_acons, x_efz, hc]
  show some (D.tup (g.map fun p => eI (rkT p))) = _
  unfold eR
  rw [List.map_map]
  rfl
def ltC (a b : List Tm) : Bool := ltR (a.map rkT) (b.map rkT)
theorem c_in_order (cs : List (List Tm)) (hl : cs.length ≤ 1000) (hz : ∀ c ∈ cs, c.length ≤ 1000) : callRes0 f_in_order [.lst (cs.map eC)] = EM.ret (.lst ((sortL ltC cs).map eC)) := by
  apply callF (by rfl)
  unfold b_in_order
  obtain ⟨s2, t2', h2⟩ := loop_ins' (P := fun g => g.length ≤ 1000) (jx := 2) (ja := 3) (c := tAnd' (t2 gLt (eVar 3) (eLenV 1)) (t2 gLtL (eCall0 f_rank (aCons (eIxV 1 (eVar 3)) aNil)) (eCall0 f_rank (aCons (eVar 2) aNil)))) (body := sAsg 3 (e2 gAdd (eVar 3) (EM.ret (.int 1)))) (ins := sIns 1 (aCons (eVar 3) (aCons (eVar 2) aNil))) eC ltC (fun l s t => [.fz (.lst (cs.map eC)), .ow (l.map eC), s, t]) (fun _ _ _ _ => rfl) (fun _ _ _ _ => rfl)
    (fun l x i hl hx hy => by
      rw [x_tand]
      have e1 : (t2 gLt (eVar 3) (eLenV 1)) [.fz (.lst (cs.map eC)), .ow (l.map eC), .fz (eC x), .fz (.int i)] = .ok (decide (i < l.length)) [.fz (.lst (cs.map eC)), .ow (l.map eC), .fz (eC x), .fz (.int i)] := by
        simp
      rw [e1, x_rok]
      unfold ltAt
      by_cases hi : i < l.length
      · have e2 : (eCall0 f_rank (aCons (eIxV 1 (eVar 3)) aNil)) [.fz (.lst (cs.map eC)), .ow (l.map eC), .fz (eC x), .fz (.int i)] = .ok (eR (l[i].map rkT)) [.fz (.lst (cs.map eC)), .ow (l.map eC), .fz (eC x), .fz (.int i)] := by
          have ea : atI (l.map eC) (i : Int) = some (eC l[i]) := by
            unfold atI ixN
            simp [hi]
          simp [ea, c_rank_terms l[i] (hy l[i] (List.getElem_mem ..))]
        have e3 : (eCall0 f_rank (aCons (eVar 2) aNil)) [.fz (.lst (cs.map eC)), .ow (l.map eC), .fz (eC x), .fz (.int i)] = .ok (eR (x.map rkT)) [.fz (.lst (cs.map eC)), .ow (l.map eC), .fz (eC x), .fz (.int i)] := by
          simp [c_rank_terms x hx]
        rw [List.getElem?_eq_getElem hi, decide_eq_true hi]
        show (t2 gLtL _ _) _ = _
        rw [x_t2, e2, x_rok, x_bind, e3, x_rok, lt_eR]
        rfl
      · rw [List.getElem?_eq_none (by omega), decide_eq_false hi]
        rfl)
    (fun l x i => by simp)
    (fun l x i hl hi => by
      show (if (l.map eC).length < LIM ∧ (0 : Int) ≤ i ∧ (i : Int) < 2 ^ 63 then _ else _) = _
      rw [if_pos ⟨by rw [List.length_map]; exact hl, by omega, by rw [LIM_eq] at hl; omega⟩]
      simp)
    cs [] .no .no hz (fun _ h => by cases h) (by rw [LIM_eq, List.length_nil]; omega)
  show ans (sSeq _ _ [.fz (.lst (cs.map eC)), .ow (([] : List (List Tm)).map eC), .no, .no]) = _
  rw [x_seq, for_var 0 rfl rfl, h2]
  rfl
end Wk

set_option Elab.async false
set_option linter.all false
set_option maxRecDepth 100000
set_option maxHeartbeats 4000000
/-! PL10: rules made. -/
namespace Wk
open PySem DL L2
abbrev RawC := Bool × List Tm
def eV (g : RawC) : D := if g.1 = true then .tup (g.2.map eT) else .lst (g.2.map eT)
theorem seq_eV (g : RawC) : seqD (eV g) = some (g.2.map eT) := by
  unfold eV
  split <;> rfl
theorem sq_eV (g : RawC) : sqSl (.fz (eV g)) = some (g.2.map eT) := by
  unfold eV
  split <;> rfl
def zeroT (t : Tm) : Tm := (t.1, if t.1 = .zero then 0 else t.2)
def normR (cs : List (List Tm)) : List (List Tm) := sortL ltC (lClauses (cs.map fun c => sTerms (c.map zeroT)))
theorem sTerms_len (g : List Tm) (hl : g.length ≤ 100) : (sTerms g).length ≤ 1000 := by
  have h := flat7 (fun (k : Mk) (y : Tm) => y.1 == k) id (maxs tGe g) .zero .calm .owed .done .end_ .own .got
  have hm := maxs_le tGe g
  unfold sTerms
  have e : (mks.flatMap fun k => (maxs tGe g).filter fun y => y.1 == k) = (mks.flatMap fun k => ((maxs tGe g).filter fun y => y.1 == k).map id) := by
    simp
  rw [e]
  exact Nat.le_trans h (by omega)
theorem c_normal (gs : List RawC) (hl : gs.length ≤ 1000) (hz : ∀ g ∈ gs, g.2.length ≤ 100) : callRes0 f_normal [.lst (gs.map eV)] = EM.ret (.lst ((normR (gs.map (·.2))).map eC)) := by
  apply callF (by rfl)
  unfold b_normal
  obtain ⟨s1, hk1, h1⟩ := for_app (i := 2) (body := sApp 1 (aCons (eCall0 f_smallest (aCons (eFz (oComp (.tp [3, 4]) (EM.ret true) (eTup (aCons (eVar 3) (aCons (eIf (t2 gEq (eVar 3) (EM.ret (.str "zero"))) (EM.ret (.int 0)) (eVar 4)) aNil))) [3, 4] (iVar 2))) aNil)) aNil)) eV eC (fun g => sTerms (g.2.map zeroT)) (fun l s => [.fz (.lst (gs.map eV)), .ow (l.map eC), s, .no, .no]) (fun _ _ _ => rfl) gs [] .no rfl (fun l hl g hg => by
    have hz' := hz g hg
    have hc := oComp_pure0 (tg := .tp [3, 4]) (c := EM.ret true) (elt := eTup (aCons (eVar 3) (aCons (eIf (t2 gEq (eVar 3) (EM.ret (.str "zero"))) (EM.ret (.int 0)) (eVar 4)) aNil))) (vs := [3, 4]) (src := iVar 2) (S := .fz (g.2.map eT)) (ρ := [.fz (.lst (gs.map eV)), .ow (l.map eC), .fz (eV g), .no, .no]) [.fz (.lst (gs.map eV)), .ow (l.map eC), .fz (eV g), .no, .no] eT (fun _ => true) (fun p => eT (zeroT p)) g.2 (by
        show (EM.opt ((seqD (eV g)).map Src.fz)) _ = _
        rw [seq_eV]
        rfl) rfl rfl trivial rfl (by rw [LIM_eq]; omega)
      fun p _ => ⟨[.fz (.lst (gs.map eV)), .ow (l.map eC), .fz (eV g), .fz (.str p.1.s), .fz (.int p.2)], rfl, rfl, fun _ => by
        by_cases hn : p.1 = .zero <;> simp [eT, zeroT, hn], rfl⟩
    rw [List.filter_eq_self.mpr fun _ _ => rfl] at hc
    have he : (g.2.map fun p => eT (zeroT p)) = (g.2.map zeroT).map eT := by rw [List.map_map]; rfl
    rw [he] at hc
    have hp := c_smallest (g.2.map zeroT) (.lst ((g.2.map zeroT).map eT)) rfl (by rw [List.length_map]; omega)
    have hcall : (eCall0 f_smallest (aCons (eFz (oComp (.tp [3, 4]) (EM.ret true) (eTup (aCons (eVar 3) (aCons (eIf (t2 gEq (eVar 3) (EM.ret (.str "zero"))) (EM.ret (.int 0)) (eVar 4)) aNil))) [3, 4] (iVar 2))) aNil)) [.fz (.lst (gs.map eV)), .ow (l.map eC), .fz (eV g), .no, .no] = .ok (eC (sTerms (g.2.map zeroT))) [.fz (.lst (gs.map eV)), .ow (l.map eC), .fz (eV g), .no, .no] := by
      rw [x_call, x_acons, x_efz, hc]
      show callRes0 f_smallest [.lst ((g.2.map zeroT).map eT)] _ = _
      rw [hp]
      rfl
    rw [x_app, x_acons, hcall]
    show (if (l.map eC).length < LIM then _ else _) = _
    rw [if_pos (by rw [List.length_map]; exact hl), List.map_append]
    rfl) (by rw [LIM_eq, List.length_nil]; omega)
  show ans (sSeq _ _ [.fz (.lst (gs.map eV)), .ow (([] : List (List Tm)).map eC), .no, .no, .no]) = _
  rw [x_seq, for_var 0 rfl rfl, h1, List.nil_append]
  generalize hps : (gs.map fun g => sTerms (g.2.map zeroT)) = ps
  have lp : ps.length ≤ 1000 := by rw [← hps, List.length_map]; exact hl
  have zp : ∀ g ∈ ps, g.length ≤ 1000 := fun g hg => by
    rw [← hps] at hg
    obtain ⟨r, hr, e⟩ := List.mem_map.mp hg
    rw [← e]
    exact sTerms_len _ (by rw [List.length_map]; exact hz r hr)
  have hL := c_largest ps lp zp
  have lL : (lClauses ps).length ≤ 1000 := Nat.le_trans (maxs_le _ ps) lp
  have zL : ∀ g ∈ lClauses ps, g.length ≤ 1000 := fun g hg => by
    rcases maxs_mem hg with h | h
    · cases h
    · exact zp g h
  have hO := c_in_order (lClauses ps) lL zL
  show ans (sRet (eCall0 f_in_order (aCons (eCall0 f_largest (aCons (eVar 1) aNil)) aNil)) [.fz (.lst (gs.map eV)), .ow (ps.map eC), s1, .no, .no]) = _
  have e1 : (eCall0 f_largest (aCons (eVar 1) aNil)) [.fz (.lst (gs.map eV)), .ow (ps.map eC), s1, .no, .no] = .ok (.lst ((lClauses ps).map eC)) [.fz (.lst (gs.map eV)), .fz (.lst (ps.map eC)), s1, .no, .no] := by
    rw [x_call, x_acons]
    show (callRes0 f_largest [.lst (ps.map eC)]) _ = _
    rw [hL]
    rfl
  rw [x_sret, x_call, x_acons, e1]
  show ans ((callRes0 f_in_order [.lst ((lClauses ps).map eC)] _).bind _) = _
  rw [hO]
  show some (D.lst _) = _
  unfold normR
  rw [← hps, List.map_map]
  rfl
/-! ### what a rule is checked for -/
def okT (t : Tm) : Prop := 0 ≤ t.2 ∧ t.2 ≤ 99
def okC (c : List Tm) : Prop := c ≠ [] ∧ ∀ t ∈ c, okT t
@[simp] theorem x_eqI (i j : Int) : gEq (.int i) (.int j) = some (decide (i = j)) := rfl
theorem notin_m (k : Mk) : gNotIn (.str k.s) (.tup (t_MARKS.map .str)) = some false := by cases k <;> decide +kernel
theorem c_check_mark (k : Mk) : callRes0 f_check_mark [.str k.s] = EM.ret .non := by
  apply callF (by rfl)
  unfold b_check_mark
  have := notin_m k
  simp only [x_if, x_t2, x_var, x_ret, x_rok, x_bind]
  show ans ((EM.opt (gNotIn (.str k.s) (.tup (t_MARKS.map .str))) _).bind _) = _
  rw [this]
  rfl
/-- a for whose body changes nothing but its own names -/
theorem for_id {α : Type} {tg : Tg} {body : EM Fl} (enc : α → D) (I : List Sl → Prop) (h : ∀ x ρ, I ρ → ∃ ρ1 ρ2, setT tg (enc x) ρ = some ρ1 ∧ body ρ1 = .ok .nx ρ2 ∧ I ρ2) : ∀ (xs : List α) (ρ : List Sl), I ρ → ∃ ρ', I ρ' ∧ forD tg body (xs.map enc) ρ = .ok .nx ρ'
  | [], ρ, hI => ⟨ρ, hI, rfl⟩
  | x :: xs, ρ, hI => by
    obtain ⟨ρ1, ρ2, e1, e2, h2⟩ := h x ρ hI
    obtain ⟨ρ', h3, e3⟩ := for_id enc I h xs ρ2 h2
    refine ⟨ρ', h3, ?_⟩
    rw [List.map_cons]
    unfold forD
    rw [e1]
    show stepF (body ρ1) _ = _
    rw [e2]
    exact e3
end Wk

set_option Elab.async false
set_option linter.all false
set_option maxRecDepth 100000
set_option maxHeartbeats 4000000
/-! PL11: rules made. -/
namespace Wk
open PySem DL L2
theorem for_idM {α : Type} {tg : Tg} {body : EM Fl} (enc : α → D) (I : List Sl → Prop) : ∀ (xs : List α) (ρ : List Sl), I ρ → (∀ x ∈ xs, ∀ ρ, I ρ → ∃ ρ1 ρ2, setT tg (enc x) ρ = some ρ1 ∧ body ρ1 = .ok .nx ρ2 ∧ I ρ2) → ∃ ρ', I ρ' ∧ forD tg body (xs.map enc) ρ = .ok .nx ρ'
  | [], ρ, hI, _ => ⟨ρ, hI, rfl⟩
  | x :: xs, ρ, hI, h => by
    obtain ⟨ρ1, ρ2, e1, e2, h2⟩ := h x (List.mem_cons_self ..) ρ hI
    obtain ⟨ρ', h3, e3⟩ := for_idM enc I xs ρ2 h2 fun y hy => h y (List.mem_cons_of_mem _ hy)
    refine ⟨ρ', h3, ?_⟩
    rw [List.map_cons]
    unfold forD
    rw [e1]
    show stepF (body ρ1) _ = _
    rw [e2]
    exact e3
theorem len_eV (g : RawC) (hne : g.2 ≠ []) (d : D) (s2 s3 : Sl) : sIf (t2 gEq (eLenV 1) (EM.ret (.int 0))) sBad sNil [.fz d, .fz (eV g), s2, s3] = .ok .nx [.fz d, .fz (eV g), s2, s3] := by
  have hl : ¬ ((g.2.map eT).length : Int) = 0 := by
    rw [List.length_map]
    intro e
    exact hne (List.length_eq_zero_iff.mp (by omega))
  rw [x_if, x_t2, x_len]
  show ((match sqSl (.fz (eV g)) with
    | none => R.bad
    | some ds => R.ok (D.int ds.length) [Sl.fz d, .fz (eV g), s2, s3]).bind _).bind _ = _
  rw [sq_eV]
  simp only [x_rok, x_bind, x_ret, x_eqI, x_some, decide_eq_false hl]
  rfl
theorem c_check_clauses (gs : List RawC) (hne : gs ≠ []) (ho : ∀ g ∈ gs, okC g.2) : callRes0 f_check_clauses [.lst (gs.map eV)] = EM.ret .non := by
  apply callF (by rfl)
  unfold b_check_clauses
  have hl : ¬ ((gs.map eV).length : Int) = 0 := by
    rw [List.length_map]
    intro e
    exact hne (List.length_eq_zero_iff.mp (by omega))
  have e0 : sIf (t2 gEq (eLenV 0) (EM.ret (.int 0))) sBad sNil [.fz (.lst (gs.map eV)), .no, .no, .no] = .ok .nx [.fz (.lst (gs.map eV)), .no, .no, .no] := by
    simp only [x_if, x_t2, x_len, List.getD_cons_zero, x_sq1, x_rok, x_bind, x_ret, x_eqI, x_some, decide_eq_false hl]
    rfl
  obtain ⟨ρ', _, h⟩ := for_idM (tg := .nm 1) (body := sSeq (sIf (t2 gEq (eLenV 1) (EM.ret (.int 0))) sBad sNil) (sFor (.tp [2, 3]) (iSeq (eVar 1)) (sSeq (sDrop (eCall0 f_check_mark (aCons (eVar 2) aNil))) (sIf (tOr' (t2 gLt (eVar 3) (EM.ret (.int 0))) (t2 gGt (eVar 3) (EM.ret (.int 99)))) sBad sNil)))) eV (fun ρ => ∃ s1 s2 s3, ρ = [.fz (.lst (gs.map eV)), s1, s2, s3]) gs [.fz (.lst (gs.map eV)), .no, .no, .no] ⟨_, _, _, rfl⟩ (fun g hg ρ hI => by
    obtain ⟨s1, s2, s3, e⟩ := hI
    subst e
    obtain ⟨hn, hk⟩ := ho g hg
    obtain ⟨ρ', ⟨t2', t3, e⟩, h⟩ := for_idM (tg := .tp [2, 3]) (body := sSeq (sDrop (eCall0 f_check_mark (aCons (eVar 2) aNil))) (sIf (tOr' (t2 gLt (eVar 3) (EM.ret (.int 0))) (t2 gGt (eVar 3) (EM.ret (.int 99)))) sBad sNil)) eT (fun ρ => ∃ s2 s3, ρ = [.fz (.lst (gs.map eV)), .fz (eV g), s2, s3]) g.2 [.fz (.lst (gs.map eV)), .fz (eV g), s2, s3] ⟨_, _, rfl⟩ (fun t ht ρ hI => by
      obtain ⟨u2, u3, e⟩ := hI
      subst e
      obtain ⟨k1, k2⟩ := hk t ht
      refine ⟨[.fz (.lst (gs.map eV)), .fz (eV g), .fz (.str t.1.s), .fz (.int t.2)], [.fz (.lst (gs.map eV)), .fz (eV g), .fz (.str t.1.s), .fz (.int t.2)], rfl, ?_, ⟨_, _, rfl⟩⟩
      have n1 : ¬ t.2 < 0 := by omega
      have n2 : ¬ 99 < t.2 := by omega
      simp [c_check_mark, n1, n2])
    subst e
    refine ⟨[.fz (.lst (gs.map eV)), .fz (eV g), s2, s3], [.fz (.lst (gs.map eV)), .fz (eV g), t2', t3], rfl, ?_, ⟨_, _, _, rfl⟩⟩
    rw [x_seq, len_eV g hn]
    show sFor (.tp [2, 3]) (iSeq (eVar 1)) _ [.fz (.lst (gs.map eV)), .fz (eV g), s2, s3] = _
    rw [for_var 1 rfl (seq_eV g), h])
  show ans (sSeq _ _ [.fz (.lst (gs.map eV)), .no, .no, .no]) = _
  rw [x_seq, e0]
  show ans (sFor (.nm 1) (iSeq (eVar 0)) _ [.fz (.lst (gs.map eV)), .no, .no, .no]) = _
  rw [for_var 0 rfl rfl, h]
  rfl
def rMarks (cs : List (List Tm)) : List Mk := mks.filter fun m => cs.flatten.any fun t => t.1 == m
def rBack (cs : List (List Tm)) : Int := match cs.flatten.map (·.2) with
  | [] => 0
  | b :: bs => maxI b bs
def eRu (cs : List (List Tm)) : D := .ins "Rule" ["_clauses", "marks", "back"] [.lst (cs.map eC), .tup ((rMarks cs).map fun m => .str m.s), .int (rBack cs)]
theorem toStrs_map {α : Type} (f : α → Str) : ∀ xs : List α, toStrs (xs.map fun x => .str (f x)) = some (xs.map f)
  | [] => rfl
  | x :: xs => by
    show (toStrs (xs.map fun x => .str (f x))).map (f x :: ·) = _
    rw [toStrs_map f xs]
    rfl
theorem intsD_map {α : Type} (f : α → Int) : ∀ xs : List α, intsD (xs.map fun x => .int (f x)) = some (xs.map f)
  | [] => rfl
  | x :: xs => by
    show (intsD (xs.map fun x => .int (f x))).map (f x :: ·) = _
    rw [intsD_map f xs]
    rfl
theorem s_inj (k l : Mk) : (k.s = l.s) ↔ k = l := by cases k <;> cases l <;> decide +kernel
theorem in_terms (m : Mk) (ts : List Tm) : decide (m.s ∈ ts.map fun t => t.1.s) = ts.any fun t => t.1 == m := by
  rw [Bool.eq_iff_iff]
  simp only [decide_eq_true_eq, List.mem_map, List.any_eq_true, beq_iff_eq]
  constructor
  · rintro ⟨t, h1, h2⟩
    exact ⟨t, h1, (s_inj _ _).mp h2⟩
  · rintro ⟨t, h1, h2⟩
    exact ⟨t, h1, by rw [h2]⟩
theorem flat_eT : ∀ cs : List (List Tm), (cs.flatMap fun c => (c.filter fun _ => true).map eT) = cs.flatten.map eT
  | [] => rfl
  | c :: cs => by
    rw [List.flatMap_cons, flat_eT cs, List.flatten_cons, List.map_append, List.filter_eq_self.mpr fun _ _ => rfl]
theorem mk_Rule (gs : List RawC) (hne : gs ≠ []) (ho : ∀ g ∈ gs, okC g.2) (hl : gs.length ≤ 1000) (hz : ∀ g ∈ gs, g.2.length ≤ 100) (cs : List (List Tm)) (hcs : normR (gs.map (·.2)) = cs) (hf : cs.flatten ≠ []) (hfl : cs.flatten.length ≤ 100000) (hcl : cs.length ≤ 1000) : makeRes "Rule" f_Rule___init__ [.lst (gs.map eV)] = EM.ret (eRu cs) := by
  have h1 := c_check_clauses gs hne ho
  have h2 := c_normal gs hl hz
  rw [hcs] at h2
  generalize hgD : D.lst (gs.map eV) = gD at h1 h2 ⊢
  obtain ⟨b, bs, hb⟩ : ∃ b bs, cs.flatten.map (·.2) = b :: bs := by
    cases e : cs.flatten.map (·.2) with
    | nil => exact absurd (List.map_eq_nil_iff.mp e) hf
    | cons b bs => exact ⟨b, bs, rfl⟩
  have e : b_Rule___init__ [.oi "Rule" [] [], .fz gD, .no, .no, .no, .no] = .ok .nx [.oi "Rule" ["_clauses", "marks", "back"] [.lst (cs.map eC), .tup ((rMarks cs).map fun m => .str m.s), .int (rBack cs)], .fz gD, .ow (cs.flatten.map eT), .no, .no, .no] := by
    unfold b_Rule___init__
    have a1 : sDrop (eCall0 f_check_clauses (aCons (eVar 1) aNil)) [.oi "Rule" [] [], .fz gD, .no, .no, .no, .no] = .ok .nx [.oi "Rule" [] [], .fz gD, .no, .no, .no, .no] := by
      rw [x_drop, x_call, x_acons]
      show ((callRes0 f_check_clauses [gD]) _).bind _ = _
      rw [h1]
      rfl
    have a2 : sPut 0 "Rule" "_clauses" (eCall0 f_normal (aCons (eVar 1) aNil)) [.oi "Rule" [] [], .fz gD, .no, .no, .no, .no] = .ok .nx [.oi "Rule" ["_clauses"] [.lst (cs.map eC)], .fz gD, .no, .no, .no, .no] := by
      unfold sPut
      rw [x_bind, x_call, x_acons]
      show ((callRes0 f_normal [gD]) _).bind _ = _
      rw [h2]
      rfl
    have hc := oComp2_pure (tg := .nm 3) (tg1 := .nm 4) (c := EM.ret true) (c1 := EM.ret true) (src := iSeq (eFldV 0 "Rule" "_clauses")) (src1 := iVar 3) (elt := eVar 4) (vs := [3, 4]) (vs1 := [4]) (S := .fz (cs.map eC)) (ρ := [.oi "Rule" ["_clauses"] [.lst (cs.map eC)], .fz gD, .no, .no, .no, .no])
      [.oi "Rule" ["_clauses"] [.lst (cs.map eC)], .fz gD, .no, .no, .no, .no] eC eT (fun c => c) (fun _ _ => true) (fun _ => eT) cs rfl rfl rfl trivial rfl (by
        rw [flat_eT, List.length_map, LIM_eq]
        omega)
      fun c hc => ⟨_, .fz (c.map eT), [.oi "Rule" ["_clauses"] [.lst (cs.map eC)], .fz gD, .no, .fz (eC c), .no, .no], rfl, rfl, rfl, rfl, rfl, trivial, fun t _ => ⟨_, rfl, rfl, fun _ => rfl, rfl⟩, rfl⟩
    rw [flat_eT] at hc
    have a3 : sAsgO 2 (oComp2 (.nm 3) (EM.ret true) (iVar 3) (.nm 4) (EM.ret true) (eVar 4) [3, 4] [4] (iSeq (eFldV 0 "Rule" "_clauses"))) [.oi "Rule" ["_clauses"] [.lst (cs.map eC)], .fz gD, .no, .no, .no, .no] = .ok .nx [.oi "Rule" ["_clauses"] [.lst (cs.map eC)], .fz gD, .ow (cs.flatten.map eT), .no, .no, .no] := by
      rw [x_asgO, hc]
      rfl
    have hm := oComp_pure0 (tg := .nm 5) (c := t2 gIn (eVar 5) (eFz (oComp (.nm 4) (EM.ret true) (eIxV 4 (EM.ret (.int 0))) [4] (iVar 2)))) (elt := eVar 5) (vs := [5]) (src := iSeq (EM.ret (.tup (t_MARKS.map .str)))) (S := .fz (t_MARKS.map .str)) (ρ := [.oi "Rule" ["_clauses"] [.lst (cs.map eC)], .fz gD, .ow (cs.flatten.map eT), .no, .no, .no]) [.oi "Rule" ["_clauses"] [.lst (cs.map eC)], .fz gD, .ow (cs.flatten.map eT), .no, .no, .no] (fun m : Mk => .str m.s) (fun m => cs.flatten.any fun t => t.1 == m) (fun m => .str m.s) mks rfl rfl rfl trivial rfl (by rw [LIM_eq]; decide)
      fun m _ => ⟨[.oi "Rule" ["_clauses"] [.lst (cs.map eC)], .fz gD, .ow (cs.flatten.map eT), .no, .no, .fz (.str m.s)], rfl, by
        have hi := oComp_pure0 (tg := .nm 4) (c := EM.ret true) (elt := eIxV 4 (EM.ret (.int 0))) (vs := [4]) (src := iVar 2) (S := .sl 2 (cs.flatten.map eT)) (ρ := [.oi "Rule" ["_clauses"] [.lst (cs.map eC)], .fz gD, .ow (cs.flatten.map eT), .no, .no, .fz (.str m.s)]) [.oi "Rule" ["_clauses"] [.lst (cs.map eC)], .fz gD, .ow (cs.flatten.map eT), .no, .no, .fz (.str m.s)] eT (fun _ => true) (fun t => .str t.1.s) cs.flatten rfl rfl rfl (.inl rfl) rfl (by rw [LIM_eq]; omega)
          fun t _ => ⟨_, rfl, rfl, fun _ => by simp [eT], rfl⟩
        rw [List.filter_eq_self.mpr fun _ _ => rfl] at hi
        rw [x_t2, x_var]
        show ((eFz (oComp _ _ _ _ _)) [.oi "Rule" ["_clauses"] [.lst (cs.map eC)], .fz gD, .ow (cs.flatten.map eT), .no, .no, .fz (.str m.s)]).bind _ = _
        rw [x_efz, hi]
        show EM.opt ((toStrs (cs.flatten.map fun t => .str t.1.s)).map fun xs => decide (m.s ∈ xs)) _ = _
        rw [toStrs_map (fun t : Tm => t.1.s), Option.map_some, in_terms]
        rfl, fun _ => rfl, rfl⟩
    have a4 : sPut 0 "Rule" "marks" (eBlt gTuple (aCons (eFz (oComp (.nm 5) (t2 gIn (eVar 5) (eFz (oComp (.nm 4) (EM.ret true) (eIxV 4 (EM.ret (.int 0))) [4] (iVar 2)))) (eVar 5) [5] (iSeq (EM.ret (.tup (t_MARKS.map .str)))))) aNil)) [.oi "Rule" ["_clauses"] [.lst (cs.map eC)], .fz gD, .ow (cs.flatten.map eT), .no, .no, .no] =
        .ok .nx [.oi "Rule" ["_clauses", "marks"] [.lst (cs.map eC), .tup ((rMarks cs).map fun m => .str m.s)], .fz gD, .ow (cs.flatten.map eT), .no, .no, .no] := by
      unfold sPut
      rw [x_bind, x_blt, x_acons, x_efz, hm]
      rfl
    have hk := oComp_pure0 (tg := .nm 4) (c := EM.ret true) (elt := eBlt gInt (aCons (eIxV 4 (EM.ret (.int 1))) aNil)) (vs := [4]) (src := iVar 2) (S := .sl 2 (cs.flatten.map eT)) (ρ := [.oi "Rule" ["_clauses", "marks"] [.lst (cs.map eC), .tup ((rMarks cs).map fun m => .str m.s)], .fz gD, .ow (cs.flatten.map eT), .no, .no, .no]) [.oi "Rule" ["_clauses", "marks"] [.lst (cs.map eC), .tup ((rMarks cs).map fun m => .str m.s)], .fz gD, .ow (cs.flatten.map eT), .no, .no, .no] eT (fun _ => true) (fun t => .int t.2) cs.flatten rfl rfl rfl (.inl rfl) rfl (by rw [LIM_eq]; omega)
      fun t _ => ⟨_, rfl, rfl, fun _ => by simp [eT], rfl⟩
    rw [List.filter_eq_self.mpr fun _ _ => rfl] at hk
    have hmax : gMax [.lst (cs.flatten.map fun t => .int t.2)] = some (.int (rBack cs)) := by
      show (intsD (cs.flatten.map fun t => .int t.2)).bind _ = _
      rw [intsD_map (fun t : Tm => t.2), Option.bind_some]
      unfold rBack
      rw [hb]
    have a5 : sPut 0 "Rule" "back" (eBlt gMax (aCons (eFz (oComp (.nm 4) (EM.ret true) (eBlt gInt (aCons (eIxV 4 (EM.ret (.int 1))) aNil)) [4] (iVar 2))) aNil)) [.oi "Rule" ["_clauses", "marks"] [.lst (cs.map eC), .tup ((rMarks cs).map fun m => .str m.s)], .fz gD, .ow (cs.flatten.map eT), .no, .no, .no] =
        .ok .nx [.oi "Rule" ["_clauses", "marks", "back"] [.lst (cs.map eC), .tup ((rMarks cs).map fun m => .str m.s), .int (rBack cs)], .fz gD, .ow (cs.flatten.map eT), .no, .no, .no] := by
      unfold sPut
      rw [x_bind, x_blt, x_acons, x_efz, hk]
      show ((EM.opt (gMax [.lst (cs.flatten.map fun t => .int t.2)]) _).bind _) = _
      rw [hmax]
      rfl
    rw [x_seq, a1]
    show (sSeq _ _) [.oi "Rule" [] [], .fz gD, .no, .no, .no, .no] = _
    rw [x_seq, a2]
    show (sSeq _ _) [.oi "Rule" ["_clauses"] [.lst (cs.map eC)], .fz gD, .no, .no, .no, .no] = _
    rw [x_seq, a3]
    show (sSeq _ _) [.oi "Rule" ["_clauses"] [.lst (cs.map eC)], .fz gD, .ow (cs.flatten.map eT), .no, .no, .no] = _
    rw [x_seq, a4]
    exact a5
  have e2 : f_Rule___init__ [.oi "Rule" [] [], .fz gD] = .ok .non [.oi "Rule" ["_clauses", "marks", "back"] [.lst (cs.map eC), .tup ((rMarks cs).map fun m => .str m.s), .int (rBack cs)], .fz gD] := by
    unfold f_Rule___init__ fOf
    show (match b_Rule___init__ [.oi "Rule" [] [], .fz gD, .no, .no, .no, .no] with
      | .ok (.rt d) ρ' => (match mergeA ρ' 0 [.oi "Rule" [] [], .fz gD] with
        | some as' => R.ok d as'
        | none => R.bad)
      | .ok .nx ρ' => (match mergeA ρ' 0 [.oi "Rule" [] [], .fz gD] with
        | some as' => R.ok D.non as'
        | none => R.bad)
      | .ex c ns ds ρ' => (match mergeA ρ' 0 [.oi "Rule" [] [], .fz gD] with
        | some as' => R.ex c ns ds as'
        | none => R.bad)
      | _ => R.bad) = _
    rw [e]
    rfl
  funext ρ
  unfold makeRes
  show (match f_Rule___init__ [.oi "Rule" [] [], .fz gD] with
    | .ok .non (.oi c' ns vs :: _) => if c' = ("Rule" : Str) then R.ok (D.ins "Rule" ns vs) ρ else R.bad
    | _ => R.bad) = _
  rw [e2]
  show (if ("Rule" : Str) = "Rule" then _ else _) = _
  rw [if_pos rfl]
  rfl
end Wk

set_option Elab.async false
set_option linter.all false
set_option maxRecDepth 100000
set_option maxHeartbeats 4000000
/-! PL12: what rules do, computed. -/
namespace Wk
open PySem DL L2
theorem part7 : ∀ l : List Tm, (mks.flatMap fun m => l.filter fun t => t.1 == m).length = l.length
  | [] => by simp [mks]
  | (k, b) :: l => by
    have ih := part7 l
    simp only [mks, List.flatMap_cons, List.flatMap_nil, List.length_append, List.length_nil] at ih ⊢
    cases k <;> simp <;> omega
theorem part4 : ∀ l : List Pt, (kds.flatMap fun m => l.filter fun t => t.1 == m).length = l.length
  | [] => by simp [kds]
  | (k, b) :: l => by
    have ih := part4 l
    simp only [kds, List.flatMap_cons, List.flatMap_nil, List.length_append, List.length_nil] at ih ⊢
    cases k <;> simp <;> omega
theorem sTerms_le (c : List Tm) : (sTerms c).length ≤ c.length := by
  unfold sTerms
  rw [part7]
  exact maxs_le _ c
theorem gParts_le (c : List Pt) : (gParts c).length ≤ c.length := by
  unfold gParts
  rw [part4]
  exact maxs_le _ c
theorem mem_sTerms {c : List Tm} {t : Tm} : t ∈ sTerms c ↔ t ∈ maxs tGe c := by
  unfold sTerms
  rw [List.mem_flatMap]
  constructor
  · rintro ⟨m, _, h⟩
    exact (List.mem_filter.mp h).1
  · intro h
    exact ⟨t.1, by cases t.1 <;> simp [mks], List.mem_filter.mpr ⟨h, by simp⟩⟩
theorem mem_gParts {c : List Pt} {t : Pt} : t ∈ gParts c ↔ t ∈ maxs pLe c := by
  unfold gParts
  rw [List.mem_flatMap]
  constructor
  · rintro ⟨m, _, h⟩
    exact (List.mem_filter.mp h).1
  · intro h
    exact ⟨t.1, by cases t.1 <;> simp [kds], List.mem_filter.mpr ⟨h, by simp⟩⟩
theorem stepM_ne {α : Type} (le : α → α → Bool) (kept : List α) (x : α) : stepM le kept x ≠ [] := by
  unfold stepM
  split
  · rename_i h
    intro e
    rw [e] at h
    cases h
  · simp
theorem maxs_ne {α : Type} (le : α → α → Bool) : ∀ (xs kept : List α), (kept ≠ [] ∨ xs ≠ []) → xs.foldl (stepM le) kept ≠ []
  | [], kept, h => by
    rcases h with h | h
    · exact h
    · exact absurd rfl h
  | x :: xs, kept, _ => maxs_ne le xs (stepM le kept x) (.inl (stepM_ne le kept x))
theorem mem_insL {α : Type} {lt : α → α → Bool} {x y : α} {l : List α} : y ∈ insL lt x l ↔ y ∈ l ∨ y = x := by
  constructor
  · exact insL_mem
  · intro h
    unfold insL
    have e : l.takeWhile (fun y => lt y x) ++ l.dropWhile (fun y => lt y x) = l := List.takeWhile_append_dropWhile
    rcases h with h | h
    · rw [← e] at h
      rcases List.mem_append.mp h with h | h
      · exact List.mem_append_left _ (List.mem_append_left _ h)
      · exact List.mem_append_right _ h
    · exact List.mem_append_left _ (List.mem_append_right _ (List.mem_singleton.mpr h))
theorem mem_sort_go {α : Type} {lt : α → α → Bool} {y : α} : ∀ (xs l : List α), y ∈ xs.foldl (fun l x => insL lt x l) l ↔ y ∈ l ∨ y ∈ xs
  | [], l => by simp
  | x :: xs, l => by
    rw [List.foldl_cons, mem_sort_go xs, mem_insL, List.mem_cons, or_assoc]
theorem mem_sortL {α : Type} {lt : α → α → Bool} {y : α} {xs : List α} : y ∈ sortL lt xs ↔ y ∈ xs := by
  unfold sortL
  rw [mem_sort_go]
  simp
theorem sort_len {α : Type} {lt : α → α → Bool} : ∀ (xs l : List α), (xs.foldl (fun l x => insL lt x l) l).length = l.length + xs.length
  | [], l => by simp
  | x :: xs, l => by
    rw [List.foldl_cons, sort_len xs, insL_len, List.length_cons]
    omega
theorem sortL_len {α : Type} {lt : α → α → Bool} (xs : List α) : (sortL lt xs).length = xs.length := by
  unfold sortL
  rw [sort_len]
  simp
/-- a rule's clauses: some, none empty, backs from 0 to 99, at most n of at most m terms -/
structure GoodR (n m : Nat) (cs : List (List Tm)) : Prop where
  ne : cs ≠ []
  ok : ∀ c ∈ cs, okC c
  len : cs.length ≤ n
  cl : ∀ c ∈ cs, c.length ≤ m
theorem mem_maxs {α : Type} {le : α → α → Bool} {xs : List α} {y : α} (h : y ∈ maxs le xs) : y ∈ xs := by
  rcases maxs_mem h with h | h
  · cases h
  · exact h
theorem norm_mem {cs : List (List Tm)} {c : List Tm} (h : c ∈ normR cs) : ∃ d ∈ cs, c = sTerms (d.map zeroT) := by
  have h := mem_maxs (mem_sortL.mp h)
  obtain ⟨d, hd, e⟩ := List.mem_map.mp h
  exact ⟨d, hd, e.symm⟩
theorem normR_good {n m : Nat} {cs : List (List Tm)} (h : GoodR n m cs) : GoodR n m (normR cs) := by
  refine ⟨?_, fun c hc => ?_, ?_, fun c hc => ?_⟩
  · unfold normR
    intro e
    have h1 : (sortL ltC (lClauses (cs.map fun (c : List Tm) => sTerms (c.map zeroT)))).length = 0 := by rw [e]; rfl
    rw [sortL_len] at h1
    have h2 : lClauses (cs.map fun (c : List Tm) => sTerms (c.map zeroT)) = [] := List.length_eq_zero_iff.mp h1
    exact maxs_ne (cLe none none) (cs.map fun (c : List Tm) => sTerms (c.map zeroT)) [] (.inr (by
      intro e2
      exact h.ne (List.map_eq_nil_iff.mp e2))) h2
  · obtain ⟨d, hd, e⟩ := norm_mem hc
    subst e
    obtain ⟨h1, h2⟩ := h.ok d hd
    refine ⟨?_, fun t ht => ?_⟩
    · intro e2
      have e3 : (sTerms (d.map zeroT)).length = 0 := by rw [e2]; rfl
      unfold sTerms at e3
      rw [part7] at e3
      have e5 : maxs tGe (d.map zeroT) = [] := List.length_eq_zero_iff.mp e3
      exact maxs_ne tGe (d.map zeroT) [] (.inr (by
        intro e4
        exact h1 (List.map_eq_nil_iff.mp e4))) e5
    · have ht := mem_maxs (mem_sTerms.mp ht)
      obtain ⟨u, hu, e⟩ := List.mem_map.mp ht
      obtain ⟨k1, k2⟩ := h2 u hu
      subst e
      unfold zeroT okT
      split <;> constructor <;> dsimp only <;> omega
  · unfold normR
    rw [sortL_len]
    have := maxs_le (cLe none none) (cs.map fun (c : List Tm) => sTerms (c.map zeroT))
    rw [List.length_map] at this
    exact Nat.le_trans this h.len
  · obtain ⟨d, hd, e⟩ := norm_mem hc
    subst e
    have h1 := sTerms_le (d.map zeroT)
    rw [List.length_map] at h1
    exact Nat.le_trans h1 (h.cl d hd)
theorem flat_len {n m : Nat} : ∀ {cs : List (List Tm)}, cs.length ≤ n → (∀ c ∈ cs, c.length ≤ m) → cs.flatten.length ≤ n * m
  | [], _, _ => by simp
  | c :: cs, h1, h2 => by
    cases n with
    | zero => cases h1
    | succ n =>
      have ih := flat_len (n := n) (Nat.le_of_succ_le_succ h1) fun d hd => h2 d (List.mem_cons_of_mem _ hd)
      have h3 := h2 c (List.mem_cons_self ..)
      rw [List.flatten_cons, List.length_append, Nat.succ_mul]
      omega
theorem mk_good {n m : Nat} (gs : List RawC) (h : GoodR n m (gs.map (·.2))) (hn : n ≤ 1000) (hm : m ≤ 100) : makeRes "Rule" f_Rule___init__ [.lst (gs.map eV)] = EM.ret (eRu (normR (gs.map (·.2)))) := by
  have g := normR_good h
  refine mk_Rule gs (fun e => h.ne (by rw [e]; rfl)) (fun x hx => h.ok _ (List.mem_map.mpr ⟨x, hx, rfl⟩)) (by have := h.len; rw [List.length_map] at this; omega) (fun x hx => Nat.le_trans (h.cl _ (List.mem_map.mpr ⟨x, hx, rfl⟩)) hm) _ rfl ?_ ?_ (Nat.le_trans g.len hn)
  · intro e
    cases z : normR (gs.map (·.2)) with
    | nil => exact g.ne z
    | cons c cs =>
      rw [z, List.flatten_cons] at e
      have := (List.append_eq_nil_iff.mp e).1
      exact (g.ok c (by rw [z]; exact List.mem_cons_self ..)).1 this
  · have := flat_len g.len g.cl
    have h2 : n * m ≤ 1000 * 100 := Nat.mul_le_mul hn hm
    omega
end Wk

set_option Elab.async false
set_option linter.all false
set_option maxRecDepth 100000
set_option maxHeartbeats 4000000
/-! PL13: what rules do, computed. -/
namespace Wk
open PySem DL L2
theorem tupsC (gs : List (List Tm)) : gs.map eC = (gs.map fun g => ((true, g) : RawC)).map eV := by
  rw [List.map_map]
  rfl
theorem lstsC (gs : List (List Tm)) : (gs.map fun g => D.lst (g.map eT)) = (gs.map fun g => ((false, g) : RawC)).map eV := by
  rw [List.map_map]
  rfl
theorem sndsC (b : Bool) (gs : List (List Tm)) : (gs.map fun g => ((b, g) : RawC)).map (·.2) = gs := by
  rw [List.map_map]
  exact List.map_id _
theorem mk_tupsC {n m : Nat} (gs : List (List Tm)) (h : GoodR n m gs) (hn : n ≤ 1000) (hm : m ≤ 100) : makeRes "Rule" f_Rule___init__ [.lst (gs.map eC)] = EM.ret (eRu (normR gs)) := by
  have e := mk_good (n := n) (m := m) (gs.map fun g => ((true, g) : RawC)) (by rw [sndsC]; exact h) hn hm
  rw [← tupsC, sndsC] at e
  exact e
theorem mk_lstsC {n m : Nat} (gs : List (List Tm)) (h : GoodR n m gs) (hn : n ≤ 1000) (hm : m ≤ 100) : makeRes "Rule" f_Rule___init__ [.lst (gs.map fun g => D.lst (g.map eT))] = EM.ret (eRu (normR gs)) := by
  have e := mk_good (n := n) (m := m) (gs.map fun g => ((false, g) : RawC)) (by rw [sndsC]; exact h) hn hm
  rw [← lstsC, sndsC] at e
  exact e
theorem fld_R1 (cs : List (List Tm)) : fldOf "Rule" "_clauses" (eRu cs) = some (.lst (cs.map eC)) := rfl
theorem fld_R2 (cs : List (List Tm)) : fldOf "Rule" "marks" (eRu cs) = some (.tup ((rMarks cs).map fun m => .str m.s)) := rfl
theorem fld_R3 (cs : List (List Tm)) : fldOf "Rule" "back" (eRu cs) = some (.int (rBack cs)) := rfl
theorem good1 (m : Mk) (b : Int) (h0 : 0 ≤ b) (h1 : b ≤ 99) : GoodR 1 1 [[(m, b)]] := ⟨by simp, fun c hc => by
  rw [List.mem_singleton.mp hc]
  exact ⟨by simp, fun t ht => by rw [List.mem_singleton.mp ht]; exact ⟨h0, h1⟩⟩, by simp, fun c hc => by rw [List.mem_singleton.mp hc]; simp⟩
theorem f_Rule_of_at (m : Mk) (b : Int) (h0 : 0 ≤ b) (h1 : b ≤ 99) : f_Rule_of ([D.cls "Rule", .str m.s, .int b].map .fz) = .ok (eRu (normR [[(m, b)]])) ([D.cls "Rule", .str m.s, .int b].map .fz) := by
  have h := mk_lstsC [[(m, b)]] (good1 m b h0 h1) (by omega) (by omega)
  apply ofF (by rfl)
  unfold b_Rule_of
  have hm : (eMakeV 0 "Rule" f_Rule___init__ (aCons (eFz (oLst (aCons (eFz (oLst (aCons (eTup (aCons (eVar 1) (aCons (eVar 2) aNil))) aNil))) aNil))) aNil)) [.fz (.cls "Rule"), .fz (.str m.s), .fz (.int b)] = .ok (eRu (normR [[(m, b)]])) [.fz (.cls "Rule"), .fz (.str m.s), .fz (.int b)] := by
    unfold eMakeV
    show (if ("Rule" : Str) = "Rule" then _ else _) = _
    rw [if_pos rfl]
    unfold eMake
    show makeRes "Rule" f_Rule___init__ [.lst ([[(m, b)]].map fun g => D.lst (g.map eT))] _ = _
    rw [h]
    rfl
  show ans (sRet _ [.fz (.cls "Rule"), .fz (.str m.s), .fz (.int b)]) = _
  rw [x_sret, hm]
  rfl
theorem c_Rule_of (m : Mk) (b : Int) (h0 : 0 ≤ b) (h1 : b ≤ 99) : callRes0 f_Rule_of [.cls "Rule", .str m.s, .int b] = EM.ret (eRu (normR [[(m, b)]])) := call_ok (f_Rule_of_at m b h0 h1)
theorem c_Rule_of1 (m : Mk) : callRes0 f_Rule_of_1 [.cls "Rule", .str m.s] = EM.ret (eRu (normR [[(m, 0)]])) := by
  apply call_ok (as := [.fz (.cls "Rule"), .fz (.str m.s)])
  unfold f_Rule_of_1 fDfl
  show takeArgs 2 (f_Rule_of ([D.cls "Rule", .str m.s, .int 0].map .fz)) = _
  rw [f_Rule_of_at m 0 (by omega) (by omega)]
  rfl
theorem c_Rule_clauses (cs : List (List Tm)) : callRes0 f_Rule_clauses [eRu cs] = EM.ret (.lst (cs.map eC)) := by
  apply callF (by rfl)
  rfl
theorem good_or {n m n' m' : Nat} {a b : List (List Tm)} (ha : GoodR n m a) (hb : GoodR n' m' b) : GoodR (n + n') (max m m') (a ++ b) := ⟨fun e => ha.ne (List.append_eq_nil_iff.mp e).1, fun c hc => by
    rcases List.mem_append.mp hc with h | h
    · exact ha.ok c h
    · exact hb.ok c h, by rw [List.length_append]; exact Nat.add_le_add ha.len hb.len, fun c hc => by
    rcases List.mem_append.mp hc with h | h
    · exact Nat.le_trans (ha.cl c h) (Nat.le_max_left ..)
    · exact Nat.le_trans (hb.cl c h) (Nat.le_max_right ..)⟩
def prodC {α : Type} (a b : List (List α)) : List (List α) := a.flatMap fun x => b.map fun y => x ++ y
theorem prod_len {α : Type} : ∀ (a b : List (List α)), (prodC a b).length = a.length * b.length
  | [], b => by simp [prodC]
  | x :: a, b => by
    have ih := prod_len a b
    unfold prodC at ih ⊢
    rw [List.flatMap_cons, List.length_append, ih, List.length_map, List.length_cons, Nat.succ_mul]
    omega
theorem mem_prod {α : Type} {a b : List (List α)} {c : List α} : c ∈ prodC a b ↔ ∃ x ∈ a, ∃ y ∈ b, c = x ++ y := by
  unfold prodC
  rw [List.mem_flatMap]
  constructor
  · rintro ⟨x, hx, h⟩
    obtain ⟨y, hy, e⟩ := List.mem_map.mp h
    exact ⟨x, hx, y, hy, e.symm⟩
  · rintro ⟨x, hx, y, hy, e⟩
    exact ⟨x, hx, List.mem_map.mpr ⟨y, hy, e.symm⟩⟩
theorem good_and {n m n' m' : Nat} {a b : List (List Tm)} (ha : GoodR n m a) (hb : GoodR n' m' b) : GoodR (n * n') (m + m') (prodC a b) := ⟨fun e => by
    have h := prod_len a b
    rw [e, List.length_nil] at h
    rcases Nat.mul_eq_zero.mp h.symm with h | h
    · exact ha.ne (List.length_eq_zero_iff.mp h)
    · exact hb.ne (List.length_eq_zero_iff.mp h), fun c hc => by
    obtain ⟨x, hx, y, hy, e⟩ := mem_prod.mp hc
    subst e
    refine ⟨fun e => (ha.ok x hx).1 (List.append_eq_nil_iff.mp e).1, fun t ht => ?_⟩
    rcases List.mem_append.mp ht with h | h
    · exact (ha.ok x hx).2 t h
    · exact (hb.ok y hy).2 t h, by rw [prod_len]; exact Nat.mul_le_mul ha.len hb.len, fun c hc => by
    obtain ⟨x, hx, y, hy, e⟩ := mem_prod.mp hc
    subst e
    rw [List.length_append]
    exact Nat.add_le_add (ha.cl x hx) (hb.cl y hy)⟩
def shiftT (m : Int) (p : Tm) : Tm := (p.1, p.2 + m)
theorem good_sub {n m : Nat} {a : List (List Tm)} (k : Int) (hk : 0 ≤ k) (ha : GoodR n m a) (hb : ∀ c ∈ a, ∀ t ∈ c, t.2 + k ≤ 99) : GoodR n m (a.map fun c => c.map (shiftT k)) := ⟨fun e => ha.ne (List.map_eq_nil_iff.mp e), fun c hc => by
    obtain ⟨d, hd, e⟩ := List.mem_map.mp hc
    subst e
    refine ⟨fun e => (ha.ok d hd).1 (List.map_eq_nil_iff.mp e), fun t ht => ?_⟩
    obtain ⟨u, hu, e⟩ := List.mem_map.mp ht
    subst e
    have h1 := (ha.ok d hd).2 u hu
    have h2 := hb d hd u hu
    exact ⟨by have := h1.1; show 0 ≤ u.2 + k; omega, h2⟩, by rw [List.length_map]; exact ha.len, fun c hc => by
    obtain ⟨d, hd, e⟩ := List.mem_map.mp hc
    subst e
    rw [List.length_map]
    exact ha.cl d hd⟩
theorem rBack_mem {a : List (List Tm)} (h : a.flatten ≠ []) : ∃ c ∈ a, ∃ t ∈ c, t.2 = rBack a := by
  have key : rBack a ∈ a.flatten.map (·.2) := by
    unfold rBack
    cases e : a.flatten.map (·.2) with
    | nil => exact absurd (List.map_eq_nil_iff.mp e) h
    | cons b bs =>
      rcases maxI_mem (xs := bs) (m := b) with z | z
      · show maxI b bs ∈ _
        rw [z]; exact List.mem_cons_self ..
      · exact List.mem_cons_of_mem _ z
  obtain ⟨t, ht, e⟩ := List.mem_map.mp key
  obtain ⟨c, hc, hct⟩ := List.mem_flatten.mp ht
  exact ⟨c, hc, t, hct, e⟩
theorem good_flat {n m : Nat} {a : List (List Tm)} (ha : GoodR n m a) : a.flatten ≠ [] := fun e => by
  cases z : a with
  | nil => exact ha.ne z
  | cons c cs =>
    rw [z, List.flatten_cons] at e
    exact (ha.ok c (by rw [z]; exact List.mem_cons_self ..)).1 (List.append_eq_nil_iff.mp e).1
end Wk

set_option Elab.async false
set_option linter.all false
set_option maxRecDepth 100000
set_option maxHeartbeats 4000000
/-! PL14: pile forms, computed. -/
namespace Wk
open PySem DL L2
structure GoodF (n m : Nat) (gs : List (List Pt)) : Prop where
  len : gs.length ≤ n
  cl : ∀ g ∈ gs, g.length ≤ m
theorem normG_mem {gs : List (List Pt)} {c : List Pt} (h : c ∈ normG gs) : ∃ d ∈ gs, c = gParts (d.map zeroN) := by
  have h := mem_maxs (mem_sortL.mp h)
  obtain ⟨d, hd, e⟩ := List.mem_map.mp h
  exact ⟨d, hd, e.symm⟩
theorem normG_good {n m : Nat} {gs : List (List Pt)} (h : GoodF n m gs) : GoodF n m (normG gs) := by
  refine ⟨?_, fun c hc => ?_⟩
  · unfold normG
    rw [sortL_len]
    have := maxs_le (fun a b : List Pt => gLeG b a) (gs.map fun (g : List Pt) => gParts (g.map zeroN))
    rw [List.length_map] at this
    exact Nat.le_trans this h.len
  · obtain ⟨d, hd, e⟩ := normG_mem hc
    subst e
    have h1 := gParts_le (d.map zeroN)
    rw [List.length_map] at h1
    exact Nat.le_trans h1 (h.cl d hd)
theorem goodF_app {n m n' m' : Nat} {a b : List (List Pt)} (ha : GoodF n m a) (hb : GoodF n' m' b) : GoodF (n + n') (max m m') (a ++ b) := ⟨by rw [List.length_append]; exact Nat.add_le_add ha.len hb.len, fun c hc => by
  rcases List.mem_append.mp hc with h | h
  · exact Nat.le_trans (ha.cl c h) (Nat.le_max_left ..)
  · exact Nat.le_trans (hb.cl c h) (Nat.le_max_right ..)⟩
theorem goodF_prod {n m n' m' : Nat} {a b : List (List Pt)} (ha : GoodF n m a) (hb : GoodF n' m' b) : GoodF (n * n') (m + m') (prodC a b) := ⟨by rw [prod_len]; exact Nat.mul_le_mul ha.len hb.len, fun c hc => by
  obtain ⟨x, hx, y, hy, e⟩ := mem_prod.mp hc
  subst e
  rw [List.length_append]
  exact Nat.add_le_add (ha.cl x hx) (hb.cl y hy)⟩
theorem normG_one (p : Pt) : normG [[p]] = [[zeroN p]] := by
  have e1 : gParts [zeroN p] = [zeroN p] := by
    unfold gParts maxs
    obtain ⟨k, b⟩ := p
    cases k <;> rfl
  unfold normG
  show sortL _ (lGroups [gParts [zeroN p]]) = _
  rw [e1]
  rfl
theorem zeroN_0 (k : Kd) : zeroN (k, 0) = (k, 0) := by
  unfold zeroN
  split <;> rfl
def mForm : Mk → Kd
  | .owed => .length | .done => .lag | .end_ => .number | _ => .none
def cStep (F : List (List Pt)) (t : Tm) : List (List Pt) := normG (prodC F [[zeroN (mForm t.1, t.2)]])
def cForm (c : List Tm) : List (List Pt) := c.foldl cStep [[(.number, 0)]]
theorem own_OO {c : Str} {fs fa fb : EM D} {x y r : D} {ρ : List Sl} (ha : fa ρ = .ok x ρ) (hb : fb ρ = .ok y ρ) (hp : pOO c x y = true) (h : callRes0 fs [x, y] = EM.ret r) : eOwn (pOO c) false fs fa fb ρ = .ok r ρ := by
  unfold eOwn
  rw [x_bind, ha, x_rok, x_bind, hb, x_rok]
  unfold ownRes
  rw [if_pos hp, if_neg Bool.false_ne_true, h]
  rfl
theorem own_OI {c : Str} {fs fa fb : EM D} {x y r : D} {ρ : List Sl} (ha : fa ρ = .ok x ρ) (hb : fb ρ = .ok y ρ) (hp : pOI c x y = true) (h : callRes0 fs [x, y] = EM.ret r) : eOwn (pOI c) false fs fa fb ρ = .ok r ρ := by
  unfold eOwn
  rw [x_bind, ha, x_rok, x_bind, hb, x_rok]
  unfold ownRes
  rw [if_pos hp, if_neg Bool.false_ne_true, h]
  rfl
theorem own_IO {c : Str} {fs fa fb : EM D} {x y r : D} {ρ : List Sl} (ha : fa ρ = .ok x ρ) (hb : fb ρ = .ok y ρ) (hp : pIO c x y = true) (h : callRes0 fs [y, x] = EM.ret r) : eOwn (pIO c) true fs fa fb ρ = .ok r ρ := by
  unfold eOwn
  rw [x_bind, ha, x_rok, x_bind, hb, x_rok]
  unfold ownRes
  rw [if_pos hp, if_pos rfl, h]
  rfl
theorem isF (gs : List (List Pt)) : isIns "Form" none (eF gs) = true := by
  unfold isIns eF
  simp
theorem isRu (cs : List (List Tm)) : isIns "Rule" none (eRu cs) = true := by
  unfold isIns eRu
  simp
theorem pFF (a b : List (List Pt)) : pOO "Form" (eF a) (eF b) = true := by
  unfold pOO
  rw [isF, isF]
  rfl
theorem pRR (a b : List (List Tm)) : pOO "Rule" (eRu a) (eRu b) = true := by
  unfold pOO
  rw [isRu, isRu]
  rfl
theorem pFI (a : List (List Pt)) (i : Int) : pOI "Form" (eF a) (.int i) = true := by
  unfold pOI
  rw [isF]
  rfl
theorem pIF (a : List (List Pt)) (i : Int) : pIO "Form" (.int i) (eF a) = true := by
  unfold pIO
  rw [isF]
  rfl
theorem pRI (a : List (List Tm)) (i : Int) : pOI "Rule" (eRu a) (.int i) = true := by
  unfold pOI
  rw [isRu]
  rfl
theorem cForm_good (n : Nat) : ∀ (c : List Tm) (m : Nat) (F : List (List Pt)), GoodF 1 m F → GoodF 1 (m + c.length) (c.foldl cStep F)
  | [], m, F, h => h
  | t :: c, m, F, h => by
    have hG : GoodF (1 * 1) (m + 1) (prodC F [[zeroN (mForm t.1, t.2)]]) := goodF_prod h ⟨by simp, fun g hg => by rw [List.mem_singleton.mp hg]; simp⟩
    have := cForm_good n c (m + 1) (cStep F t) (normG_good hG)
    rw [List.length_cons, show m + (c.length + 1) = m + 1 + c.length by omega]
    exact this
def keep (m : Mk) : Prop := m ≠ .own ∧ m ≠ .got
theorem notin_keep (m : Mk) (h : keep m) : gNotIn (.str m.s) (.tup (t_KEEP_MARKS.map .str)) = some false := by
  obtain ⟨h1, h2⟩ := h
  cases m <;> first | (exact absurd rfl h1) | (exact absurd rfl h2) | decide +kernel
theorem c_check_allowed (ms : List Mk) (h : ∀ m ∈ ms, keep m) : callRes0 f_check_allowed [.tup (ms.map fun m => .str m.s), .tup (t_KEEP_MARKS.map .str)] = EM.ret .non := by
  apply callF (by rfl)
  unfold b_check_allowed
  obtain ⟨ρ', _, e⟩ := for_idM (tg := .nm 2) (body := sIf (t2 gNotIn (eVar 2) (eVar 1)) sBad sNil) (fun m : Mk => .str m.s) (fun ρ => ∃ s, ρ = [.fz (.tup (ms.map fun m => .str m.s)), .fz (.tup (t_KEEP_MARKS.map .str)), s]) ms [.fz (.tup (ms.map fun m => .str m.s)), .fz (.tup (t_KEEP_MARKS.map .str)), .no] ⟨_, rfl⟩ (fun m hm ρ hI => by
    obtain ⟨s, e⟩ := hI
    subst e
    refine ⟨[.fz (.tup (ms.map fun m => .str m.s)), .fz (.tup (t_KEEP_MARKS.map .str)), .fz (.str m.s)], [.fz (.tup (ms.map fun m => .str m.s)), .fz (.tup (t_KEEP_MARKS.map .str)), .fz (.str m.s)], rfl, ?_, ⟨_, rfl⟩⟩
    rw [x_if, x_t2]
    show ((EM.opt (gNotIn (.str m.s) (.tup (t_KEEP_MARKS.map .str))) _).bind _) = _
    rw [notin_keep m (h m hm)]
    rfl)
  show ans (sFor (.nm 2) (iSeq (eVar 0)) _ [.fz (.tup (ms.map fun m => .str m.s)), .fz (.tup (t_KEEP_MARKS.map .str)), .no]) = _
  rw [for_var 0 rfl rfl, e]
  rfl
/-- the clauses of a rule hold keep marks -/
def keepR (cs : List (List Tm)) : Prop := ∀ c ∈ cs, ∀ t ∈ c, keep t.1
theorem rMarks_keep {cs : List (List Tm)} (h : keepR cs) : ∀ m ∈ rMarks cs, keep m := fun m hm => by
  obtain ⟨_, h2⟩ := List.mem_filter.mp hm
  obtain ⟨t, ht, e⟩ := List.any_eq_true.mp h2
  obtain ⟨c, hc, htc⟩ := List.mem_flatten.mp ht
  rw [← beq_iff_eq.mp e]
  exact h c hc t htc
theorem allowed_go {cs : List (List Tm)} (h : keepR cs) (s1 s2 : Sl) : (eCall0 f_check_allowed (aCons (eFld "Rule" "marks" (eVar 0)) (aCons (EM.ret (.tup (t_KEEP_MARKS.map .str))) aNil))) (.fz (eRu cs) :: s1 :: s2 :: []) = .ok .non (.fz (eRu cs) :: s1 :: s2 :: []) := by
  have e := c_check_allowed (rMarks cs) (rMarks_keep h)
  simp only [x_call, x_acons, x_fld, x_var, x_rok, x_bind, List.getD_cons_zero, fld_R2, x_some, x_ret, x_anil, e]
def pForm (cs : List (List Tm)) : List (List Pt) := cs.foldl (fun F c => normG (F ++ cForm c)) [[(.none, 0)]]
theorem prop_cl {fe : EM D} {cs : List (List Tm)} {ρ : List Sl} (h : fe ρ = .ok (eRu cs) ρ) : eProp "Rule" f_Rule_clauses fe ρ = .ok (.lst (cs.map eC)) ρ := by
  unfold eProp propRes
  rw [x_bind, h, x_rok, if_pos (isRu cs), c_Rule_clauses]
  rfl
end Wk

set_option Elab.async false
set_option linter.all false
set_option maxRecDepth 100000
set_option maxHeartbeats 4000000
/-! PL15: worlds, safe rules, the least rule, computed. -/
namespace Wk
open PySem DL L2
def eWo (lag len : Option Int) : D := .ins "World" ["lag", "length"] [eO lag, eO len]
theorem fld_W1 (lag len : Option Int) : fldOf "World" "lag" (eWo lag len) = some (eO lag) := rfl
theorem fld_W2 (lag len : Option Int) : fldOf "World" "length" (eWo lag len) = some (eO len) := rfl
def forEver (cs : List (List Tm)) : Bool := cs.all fun c => c.any fun t => t.1 == .zero || t.1 == .calm
theorem c_at_most {n m n' m' : Nat} (a b : List (List Tm)) (lag len : Option Int) (ha : GoodR n m a) (hb : GoodR n' m' b) (hm : m ≤ 1000) (hn : n' ≤ 1000) : callRes0 f_at_most [eRu a, eRu b, eWo lag len] = EM.ret (.bl (csLe lag len a b)) := by
  have h := c_clauses_at_most lag len a b (fun c hc => Nat.le_trans (ha.cl c hc) hm) (Nat.le_trans hb.len hn)
  apply callF (by rfl)
  unfold b_at_most
  show ans (sRet _ [.fz (eRu a), .fz (eRu b), .fz (eWo lag len)]) = _
  have e1 := prop_cl (fe := eVar 0) (cs := a) (ρ := [.fz (eRu a), .fz (eRu b), .fz (eWo lag len)]) rfl
  have e2 := prop_cl (fe := eVar 1) (cs := b) (ρ := [.fz (eRu a), .fz (eRu b), .fz (eWo lag len)]) rfl
  simp only [x_sret, x_call, x_acons, e1, e2, x_fld, x_var, x_rok, x_bind, List.getD_cons_succ, List.getD_cons_zero, fld_W1, fld_W2, x_some, x_ret, x_anil, h]
  rfl
def owedR : List (List Tm) := normR [[(.owed, 0)]]
theorem owedR_good : GoodR 1 1 owedR := normR_good (good1 .owed 0 (by omega) (by omega))
theorem c_safe {n m : Nat} (a : List (List Tm)) (lag len : Option Int) (ha : GoodR n m a) (hm : m ≤ 1000) (hk : keepR a) : callRes0 f_safe [eRu a, eWo lag len] = EM.ret (.bl (csLe lag len a owedR)) := by
  have h := c_at_most a owedR lag len ha owedR_good hm (by omega)
  apply callF (by rfl)
  unfold b_safe
  have ha : (eCall0 f_check_allowed (aCons (eFld "Rule" "marks" (eVar 0)) (aCons (EM.ret (.tup (t_KEEP_MARKS.map .str))) aNil))) [.fz (eRu a), .fz (eWo lag len)] = .ok .non [.fz (eRu a), .fz (eWo lag len)] := by
    have e := c_check_allowed (rMarks a) (rMarks_keep hk)
    simp only [x_call, x_acons, x_fld, x_var, x_rok, x_bind, List.getD_cons_zero, fld_R2, x_some, x_ret, x_anil, e]
  have hc : (eCm "Rule" f_Rule_of_1 (EM.ret (.cls "Rule")) (aCons (EM.ret (.str "owed")) aNil)) [.fz (eRu a), .fz (eWo lag len)] = .ok (eRu owedR) [.fz (eRu a), .fz (eWo lag len)] := by
    unfold eCm cmRes
    rw [x_bind, x_ret, x_rok]
    dsimp only
    rw [if_pos rfl, x_bind]
    show (callRes0 f_Rule_of_1 [.cls "Rule", .str Mk.owed.s]) _ = _
    rw [c_Rule_of1]
    rfl
  show ans (sSeq (sDrop _) _ [.fz (eRu a), .fz (eWo lag len)]) = _
  rw [x_seq, x_drop, ha]
  show ans (sRet _ [.fz (eRu a), .fz (eWo lag len)]) = _
  simp only [x_sret, x_call, x_acons, hc, x_var, x_rok, x_bind, List.getD_cons_succ, List.getD_cons_zero, x_ret, x_anil, h]
  rfl
end Wk

set_option Elab.async false
set_option linter.all false
set_option maxRecDepth 100000
set_option maxHeartbeats 4000000
/-! PL16: World(..), the least rule, computed. -/
namespace Wk
open PySem DL L2
@[simp] theorem x_isi (T : String) (f : EM D) (ρ : List Sl) : eIsi T f ρ = (f ρ).bind fun d => EM.opt (isiD T d) := rfl
@[simp] theorem isi_ii (i : Int) : isiD "int" (.int i) = some true := by
  show kitB "int" "int" = some true
  decide +kernel
@[simp] theorem isi_ib (i : Int) : isiD "bool" (.int i) = some false := by
  show kitB "int" "bool" = some false
  decide +kernel
theorem c_is_whole (i : Int) : callRes0 f_is_whole [.int i] = EM.ret (.bl true) := by
  apply callF (by rfl)
  unfold b_is_whole
  simp
def okB : Option Int → Prop
  | none => True
  | some i => 0 ≤ i ∧ i ≤ 49
theorem c_is_bound (v : Option Int) (h : okB v) : callRes0 f_is_bound [eO v] = EM.ret (.bl true) := by
  apply callF (by rfl)
  unfold b_is_bound
  cases v with
  | none => simp
  | some i =>
    obtain ⟨h1, h2⟩ := h
    have e : (eChain gLe gLe (EM.ret (.int 0)) (eVar 0) (EM.ret (.int 49))) [.fz (.int i)] = .ok (.bl true) [.fz (.int i)] := by
      unfold eChain
      rw [x_bind, x_ret, x_rok, x_bind]
      show chRes gLe gLe (EM.ret (.int 49)) (.int 0) (.int i) [.fz (.int i)] = _
      unfold chRes
      rw [x_le, decide_eq_true h1]
      show chLast gLe (.int i) (EM.ret (.int 49)) [.fz (.int i)] = _
      unfold chLast
      rw [x_bind, x_ret, x_rok, x_gB, x_le, decide_eq_true h2]
      rfl
    simp [c_is_whole, e]
theorem mk_World (lag len : Option Int) (h1 : okB lag) (h2 : okB len) : makeRes "World" f_World___init__ [eO lag, eO len] = EM.ret (eWo lag len) := by
  have k1 := c_is_bound lag h1
  have k2 := c_is_bound len h2
  have e : f_World___init__ [.oi "World" [] [], .fz (eO lag), .fz (eO len)] = .ok .non [.oi "World" ["lag", "length"] [eO lag, eO len], .fz (eO lag), .fz (eO len)] := by
    unfold f_World___init__ fOf b_World___init__
    have e2 : sIf (tOr' (tNot' ((eCall0 f_is_bound (aCons (eVar 1) aNil)).bind toB)) (tNot' ((eCall0 f_is_bound (aCons (eVar 2) aNil)).bind toB))) sBad sNil [.oi "World" [] [], .fz (eO lag), .fz (eO len)] = .ok .nx [.oi "World" [] [], .fz (eO lag), .fz (eO len)] := by
      simp [k1, k2]
    show (match sSeq _ _ [.oi "World" [] [], .fz (eO lag), .fz (eO len)] with
      | .ok (.rt d) ρ' => (match mergeA ρ' 0 [.oi "World" [] [], .fz (eO lag), .fz (eO len)] with
        | some as' => R.ok d as'
        | none => R.bad)
      | .ok .nx ρ' => (match mergeA ρ' 0 [.oi "World" [] [], .fz (eO lag), .fz (eO len)] with
        | some as' => R.ok D.non as'
        | none => R.bad)
      | .ex c ns ds ρ' => (match mergeA ρ' 0 [.oi "World" [] [], .fz (eO lag), .fz (eO len)] with
        | some as' => R.ex c ns ds as'
        | none => R.bad)
      | _ => R.bad) = _
    rw [x_seq, e2]
    rfl
  funext ρ
  unfold makeRes
  show (match f_World___init__ [.oi "World" [] [], .fz (eO lag), .fz (eO len)] with
    | .ok .non (.oi c' ns vs :: _) => if c' = ("World" : Str) then R.ok (D.ins "World" ns vs) ρ else R.bad
    | _ => R.bad) = _
  rw [e]
  show (if ("World" : Str) = "World" then _ else _) = _
  rw [if_pos rfl]
  rfl
theorem isWo (lag len : Option Int) : isIns "World" (some "gap") (eWo lag len) = true := by
  unfold isIns eWo
  have : (["lag", "length"] : List Str).contains "gap" = false := by decide +kernel
  show (decide (("World" : Str) = "World") && !(["lag", "length"] : List Str).contains "gap") = true
  rw [this]
  simp
def lStep (lag len : Option Int) (R : List (List Tm)) (m : Mk) : List (List Tm) := match mGap m .owed lag len with
  | some g => normR (R ++ normR [[(m, g)]])
  | none => R
def lKeep (lag len : Option Int) (ms : List Mk) : List (List Tm) := ms.foldl (lStep lag len) (normR [[(.zero, 0)]])
theorem gap_range (lag len : Option Int) (m : Mk) (g : Int) (h1 : okB lag) (h2 : okB len) (h : mGap m .owed lag len = some g) : 0 ≤ g ∧ g ≤ 99 := by
  unfold mGap at h
  by_cases z : m.below .owed = true
  · rw [if_pos z] at h
    cases h
    omega
  · rw [if_neg z, if_neg (by decide), if_pos rfl] at h
    by_cases z2 : m = .done
    · rw [if_pos z2] at h
      rw [h] at h2
      obtain ⟨k1, k2⟩ := h2
      omega
    · rw [if_neg z2] at h
      cases lag with
      | none => cases h
      | some a =>
        cases len with
        | none => cases h
        | some b =>
          have h : some (a + b) = some g := h
          cases h
          obtain ⟨k1, k2⟩ := h1
          obtain ⟨k3, k4⟩ := h2
          omega
end Wk

set_option Elab.async false
set_option linter.all false
set_option maxRecDepth 100000
set_option maxHeartbeats 4000000
/-! PL17: draws. -/
namespace Wk
open PySem DL L2
structure Dr where
  cells : List Int
  i : Nat
  a : Int
  b : Int
  c : Int
  e : Int
def Dr.l (s : Dr) : List D := [.lst (s.cells.map .int), .int s.i, .int s.a, .int s.b, .int s.c, .int s.e]
@[simp] theorem x_mod (a b : Int) : gMod (.int a) (.int b) = if 0 < b then some (.int (a % b)) else none := rfl
@[simp] theorem x_div (a b : Int) : gDiv (.int a) (.int b) = if 0 < b ∧ b < 1073741824 then some (.int (a / b)) else none := rfl
@[simp] theorem x_mul (a b : Int) : gMul (.int a) (.int b) = if (-(2 ^ 64) < a ∧ a < 2 ^ 64) ∨ (-(2 ^ 64) < b ∧ b < 2 ^ 64) then some (.int (a * b)) else none := rfl
theorem c_mixed (cell turn L : Int) (hL : 0 < L) : callRes0 f__law_mixed [.int cell, .int turn, .int L] = EM.ret (.int ((((cell * 48271 + turn * 69621 + 11) % 2147483647) * 16807 + turn * 40692 + 7) % 2147483629 % L)) := by
  apply callF (by rfl)
  unfold b__law_mixed
  simp [hL]
theorem at_l (s : Dr) (k : Nat) (d : D) (h : s.l[k]? = some d) (hk : k < 6) : atI s.l (k : Int) = some d := by
  unfold atI ixN
  have hl : s.l.length = 6 := rfl
  rw [hl, if_pos (by omega), if_pos (by omega)]
  show s.l[(k : Int).toNat]? = _
  rw [Int.toNat_natCast]
  exact h
@[simp] theorem x_setix (j : Nat) (fi fv : EM D) (ρ : List Sl) : sSetIx j fi fv ρ = (fv ρ).bind fun d ρ => match ownL (ρ.getD j .no) with
  | none => .bad
  | some _ => (fi ρ).bind fun i ρ' => match i, ownL (ρ'.getD j .no) with
    | .int k, some xs => (match ixN xs.length k with
      | some n => .ok .nx (ρ'.set j (reL (ρ'.getD j .no) (xs.set n d)))
      | none => .bad)
    | _, _ => .bad := rfl
@[simp] theorem i60 : ixN 6 0 = some 0 := rfl
@[simp] theorem i61 : ixN 6 1 = some 1 := rfl
@[simp] theorem i62 : ixN 6 2 = some 2 := rfl
@[simp] theorem i63 : ixN 6 3 = some 3 := rfl
@[simp] theorem i64 : ixN 6 4 = some 4 := rfl
@[simp] theorem i65 : ixN 6 5 = some 5 := rfl
section
variable (a b c d e f : D)
@[simp] theorem a60 : atI [a, b, c, d, e, f] 0 = some a := rfl
@[simp] theorem a61 : atI [a, b, c, d, e, f] 1 = some b := rfl
@[simp] theorem a62 : atI [a, b, c, d, e, f] 2 = some c := rfl
@[simp] theorem a63 : atI [a, b, c, d, e, f] 3 = some d := rfl
@[simp] theorem a64 : atI [a, b, c, d, e, f] 4 = some e := rfl
@[simp] theorem a65 : atI [a, b, c, d, e, f] 5 = some f := rfl
end
@[simp] theorem x_pow : gPow (.int 10) (.int 18) = some (.int 1000000000000000000) := by
  show (if (0 : Int) ≤ 18 ∧ (18 : Int) ≤ 1000000 ∧ (10 : Int).natAbs < 2 ^ 64 then some (D.int (10 ^ (18 : Int).toNat)) else none) = _
  rw [if_pos (by decide)]
  rfl
@[simp] theorem x_gix1 (ds : List D) (i : Int) : gIx (.lst ds) (.int i) = atI ds i := rfl
@[simp] theorem x_gix2 (ds : List D) (i : Int) : gIx (.tup ds) (.int i) = atI ds i := rfl
theorem atI_cells (s : Dr) (h : s.i < s.cells.length) : ∃ x, atI (s.cells.map D.int) (s.i : Int) = some (.int x) := by
  refine ⟨s.cells[s.i], ?_⟩
  unfold atI ixN
  rw [List.length_map, if_pos (by omega), if_pos (by omega)]
  simp [h]
/-- what a draw leaves -/
def ansIO : R Fl → Option (D × List D)
  | .ok (.rt d) (.io xs :: _) => some (d, xs)
  | _ => none
theorem draw_body (s : Dr) (L : Int) (h1 : 0 < L) (h2 : L < 1073741824) : ∃ (d : Int) (s' : Dr), ansIO (b__law_draw [.io s.l, .fz (.int L), .no, .no]) = some (.int d, s'.l) ∧ 0 ≤ d ∧ d < L := by
  obtain ⟨cells, i, a, b, c, e⟩ := s
  unfold b__law_draw
  have hm : ∀ x : Int, 0 ≤ x % L ∧ x % L < L := fun x => ⟨Int.emod_nonneg _ (by omega), Int.emod_lt_of_pos _ h1⟩
  by_cases ha : 0 < a
  · refine ⟨a % L, ⟨cells, i, a / L, b, c, e⟩, ?_, hm a⟩
    simp [Dr.l, ha, h1, h2, ansIO]
  · by_cases hc : 0 < c
    · refine ⟨_, ⟨cells, i, a, b, c - 1, e + 1⟩, ?_, hm ((((b * 48271 + (e + 1) * 69621 + 11) % 2147483647) * 16807 + (e + 1) * 40692 + 7) % 2147483629)⟩
      simp [Dr.l, ha, hc, h1, h2, ansIO, c_mixed]
    · by_cases hi : i < cells.length
      · obtain ⟨x, hx⟩ := atI_cells ⟨cells, i, a, b, c, e⟩ hi
        have hx : atI (cells.map D.int) (i : Int) = some (.int x) := hx
        have hn : ¬ ((cells.length : Int) ≤ i) := by omega
        have hn2 : ¬ (cells.length ≤ i) := by omega
        by_cases hb : 1000000000000000000 ≤ x
        · refine ⟨x % L, ⟨cells, i + 1, x / L, b, c, e⟩, ?_, hm x⟩
          simp [Dr.l, ha, hc, h1, h2, ansIO, hx, hn, hn2, hb]
        · refine ⟨_, ⟨cells, i + 1, a, x, 3, e + 1⟩, ?_, hm ((((x * 48271 + (e + 1) * 69621 + 11) % 2147483647) * 16807 + (e + 1) * 40692 + 7) % 2147483629)⟩
          simp [Dr.l, ha, hc, h1, h2, ansIO, hx, hn, hn2, hb, c_mixed]
      · refine ⟨0, ⟨cells, i, a, b, c, e⟩, ?_, by omega, h1⟩
        have hn2 : cells.length ≤ i := by omega
        simp [Dr.l, ha, hc, ansIO, hn2]
end Wk

set_option Elab.async false
set_option linter.all false
set_option maxRecDepth 100000
set_option maxHeartbeats 4000000
/-! PL18: draws as calls. -/
namespace Wk
open PySem DL L2
/-- a def that is lent a list: its answer and the list then, from its body's -/
theorem ofIO {n N : Nat} {b : EM Fl} {xs ys : List D} {ds : List D} {d : D} (hn : ds.length + 1 = n) (h : ansIO (b (.io xs :: ds.map .fz ++ List.replicate (N - n) .no)) = some (d, ys)) : fOf n N b (.io xs :: ds.map .fz) = .ok d (.io ys :: ds.map .fz) := by
  unfold fOf
  have e : (Sl.io xs :: ds.map Sl.fz).length = n := by rw [List.length_cons, List.length_map, hn]
  rw [if_pos e, e]
  cases z : b (Sl.io xs :: ds.map Sl.fz ++ List.replicate (N - n) Sl.no) with
  | bad => rw [z] at h; cases h
  | ex c ns es ρ' => rw [z] at h; cases h
  | ok a ρ' =>
    rw [z] at h
    cases a with
    | rt d' =>
      cases ρ' with
      | nil => cases h
      | cons s r =>
        cases s with
        | io zs =>
          cases h
          dsimp only
          show (match (mergeA (Sl.io ys :: r) 1 (ds.map .fz)).map (.io ys :: ·) with
            | some as' => R.ok d as'
            | none => R.bad) = _
          rw [merge_fz]
          rfl
        | _ => cases h
    | nx => cases h
    | bk => cases h
    | ct => cases h
theorem io_go {j : Nat} {fs : EM D} {fa : EM (List D)} {ds xs ys : List D} {d : D} {ρ : List Sl} (hj : ownL (ρ.getD j .no) = some xs) (ha : fa ρ = .ok ds ρ) (h : fs (.io xs :: ds.map .fz) = .ok d (.io ys :: ds.map .fz)) : eCallIO j fs fa ρ = .ok d (ρ.set j (reL (ρ.getD j .no) ys)) := by
  unfold eCallIO
  rw [hj]
  dsimp only
  rw [ha]
  show ioRes j fs ds ρ = _
  unfold ioRes
  rw [hj]
  dsimp only
  rw [h]
theorem f_draw (s : Dr) (L : Int) (h1 : 0 < L) (h2 : L < 1073741824) : ∃ (d : Int) (s' : Dr), f__law_draw (.io s.l :: [D.int L].map .fz) = .ok (.int d) (.io s'.l :: [D.int L].map .fz) ∧ 0 ≤ d ∧ d < L := by
  obtain ⟨d, s', h, k1, k2⟩ := draw_body s L h1 h2
  exact ⟨d, s', ofIO (n := 2) (N := 4) (b := b__law_draw) (by rfl) h, k1, k2⟩
/-- a draw, wherever the state is held -/
theorem draw_go {j : Nat} {fa : EM (List D)} {ρ : List Sl} {s : Dr} {L : Int} (hj : ownL (ρ.getD j .no) = some s.l) (ha : fa ρ = .ok [.int L] ρ) (h1 : 0 < L) (h2 : L < 1073741824) : ∃ (d : Int) (s' : Dr), eCallIO j f__law_draw fa ρ = .ok (.int d) (ρ.set j (reL (ρ.getD j .no) s'.l)) ∧ 0 ≤ d ∧ d < L := by
  obtain ⟨d, s', h, k1, k2⟩ := f_draw s L h1 h2
  exact ⟨d, s', io_go hj ha h, k1, k2⟩
end Wk

set_option Elab.async false
set_option linter.all false
set_option maxRecDepth 100000
set_option maxHeartbeats 4000000
/-! PL19: _law_same says yes of equal data. -/
namespace Wk
open PySem DL L2
/-- data of which _law_same says yes when twice the same, at that many levels -/
inductive SameD : Nat → D → Prop
  | non {n} : SameD (n + 1) .non
  | bl {n} (b : Bool) : SameD (n + 1) (.bl b)
  | int {n} (i : Int) : SameD (n + 1) (.int i)
  | str {n} (x : Str) : SameD (n + 1) (.str x)
  | lst {n} (xs : List D) (h : ∀ x ∈ xs, SameD n x) (hl : xs.length ≤ 100000) : SameD (n + 1) (.lst xs)
  | tup {n} (xs : List D) (h : ∀ x ∈ xs, SameD n x) (hl : xs.length ≤ 100000) : SameD (n + 1) (.tup xs)
def kk (a b : String) : Option Bool := kitB a b
@[simp] theorem isi_n (T : String) : isiD T .non = kk "NoneType" T := rfl
@[simp] theorem isi_b (T : String) (b : Bool) : isiD T (.bl b) = kk "bool" T := rfl
@[simp] theorem isi_s (T : String) (b : Str) : isiD T (.str b) = kk "str" T := rfl
@[simp] theorem isi_l (T : String) (b : List D) : isiD T (.lst b) = kk "list" T := rfl
@[simp] theorem isi_t (T : String) (b : List D) : isiD T (.tup b) = kk "tuple" T := rfl
@[simp] theorem isi_is (i : Int) : isiD "str" (.int i) = some false := by show kitB "int" "str" = some false; decide +kernel
@[simp] theorem k1 : kk "bool" "bool" = some true := by show kitB _ _ = _; decide +kernel
@[simp] theorem k2 : kk "str" "bool" = some false := by show kitB _ _ = _; decide +kernel
@[simp] theorem k3 : kk "str" "int" = some false := by show kitB _ _ = _; decide +kernel
@[simp] theorem k4 : kk "str" "str" = some true := by show kitB _ _ = _; decide +kernel
@[simp] theorem k5 : kk "list" "bool" = some false := by show kitB _ _ = _; decide +kernel
@[simp] theorem k6 : kk "list" "int" = some false := by show kitB _ _ = _; decide +kernel
@[simp] theorem k7 : kk "list" "str" = some false := by show kitB _ _ = _; decide +kernel
@[simp] theorem k8 : kk "list" "dict" = some false := by show kitB _ _ = _; decide +kernel
@[simp] theorem k9 : kk "list" "tuple" = some false := by show kitB _ _ = _; decide +kernel
@[simp] theorem k10 : kk "list" "list" = some true := by show kitB _ _ = _; decide +kernel
@[simp] theorem k11 : kk "tuple" "bool" = some false := by show kitB _ _ = _; decide +kernel
@[simp] theorem k12 : kk "tuple" "int" = some false := by show kitB _ _ = _; decide +kernel
@[simp] theorem k13 : kk "tuple" "str" = some false := by show kitB _ _ = _; decide +kernel
@[simp] theorem k14 : kk "tuple" "dict" = some false := by show kitB _ _ = _; decide +kernel
@[simp] theorem k15 : kk "tuple" "tuple" = some true := by show kitB _ _ = _; decide +kernel
@[simp] theorem k16 : kk "tuple" "list" = some false := by show kitB _ _ = _; decide +kernel
@[simp] theorem isN_b (b : Bool) : isN (.bl b) = false := rfl
@[simp] theorem isN_s (b : Str) : isN (.str b) = false := rfl
@[simp] theorem isN_l (b : List D) : isN (.lst b) = false := rfl
@[simp] theorem isN_t (b : List D) : isN (.tup b) = false := rfl
@[simp] theorem eq_bb (a b : Bool) : gEq (.bl a) (.bl b) = some (decide (a = b)) := rfl
@[simp] theorem eq_ss (a b : Str) : gEq (.str a) (.str b) = some (decide (a = b)) := rfl
@[simp] theorem ne_ii (a b : Int) : gNe (.int a) (.int b) = some (!decide (a = b)) := rfl
theorem rg1 (n : Nat) (h : n ≤ 100000) : gRg1 [.int n] = EM.ret (.rg 0 n) := by
  have e1 : -(2 ^ 62) ≤ (n : Int) := by omega
  have e2 : (n : Int) < 2 ^ 62 := by omega
  simp only [gRg1]
  rw [if_pos ⟨e1, e2⟩, Int.toNat_natCast]
@[simp] theorem ne_bb (a b : Bool) : gNe (.bl a) (.bl b) = some (!decide (a = b)) := rfl
theorem same_seq (fr : EM D) (x : D) (xs : List D) (hs : sqSl (.fz x) = some xs) (hfr : ∀ y ∈ xs, callRes0 fr [y, y] = EM.ret (.bl true)) (hl : xs.length ≤ 100000) :
    ∃ s', sFor (.nm 3) (iRg1 (aCons (eLenV 0) aNil)) (sIf (tNot' ((eCall0 fr (aCons (eIxV 0 (eVar 3)) (aCons (eIxV 1 (eVar 3)) aNil))).bind toB)) (sRet (EM.ret (.bl false))) sNil) [.fz x, .fz x, .no, .no] = .ok .nx [.fz x, .fz x, .no, s'] := by
  obtain ⟨s', h⟩ := for_all (i := 3) (d := .bl false) (c := ((eCall0 fr (aCons (eIxV 0 (eVar 3)) (aCons (eIxV 1 (eVar 3)) aNil))).bind toB)) (fun k : Nat => D.int (0 + k)) (fun _ => true) (fun s => [.fz x, .fz x, .no, s]) (fun _ _ => rfl) (List.range xs.length) .no fun k hk => by
    have hk := List.mem_range.mp hk
    have ha : atI xs (0 + (k : Int)) = some xs[k] := by
      unfold atI ixN
      simp [hk]
    have hf := hfr xs[k] (List.getElem_mem ..)
    show (((eCall0 fr (aCons (eIxV 0 (eVar 3)) (aCons (eIxV 1 (eVar 3)) aNil))).bind toB) [.fz x, .fz x, .no, .fz (.int (0 + (k : Int)))]) = .ok true [.fz x, .fz x, .no, .fz (.int (0 + (k : Int)))]
    generalize (0 + (k : Int)) = y at ha ⊢
    have e1 : (eIxV 0 (eVar 3)) [.fz x, .fz x, .no, .fz (.int y)] = .ok xs[k] [.fz x, .fz x, .no, .fz (.int y)] := by
      simp [hs, ha]
    have e2 : (eIxV 1 (eVar 3)) [.fz x, .fz x, .no, .fz (.int y)] = .ok xs[k] [.fz x, .fz x, .no, .fz (.int y)] := by
      simp [hs, ha]
    rw [x_bind, x_call, x_acons, e1, x_rok, x_bind, x_acons, e2]
    show ((callRes0 fr [xs[k], xs[k]] _).bind _) = _
    rw [hf]
    rfl
  have e0 : iRg1 (aCons (eLenV 0) aNil) [.fz x, .fz x, .no, .no] = .ok (.rg 0 xs.length) [.fz x, .fz x, .no, .no] := by
    unfold iRg1
    have e1 : (aCons (eLenV 0) aNil) [.fz x, .fz x, .no, .no] = .ok [.int xs.length] [.fz x, .fz x, .no, .no] := by
      simp [hs]
    rw [x_bind, e1, x_rok, rg1 _ hl, x_ret]
  refine ⟨s', ?_⟩
  rw [for_src e0 trivial]
  show forD _ _ ((List.range xs.length).map fun k : Nat => D.int (0 + k)) [.fz x, .fz x, .no, .no] = _
  rw [h, if_pos (by simp)]
theorem same_0 : ∀ (n : Nat) (x : D), SameD n x → callRes0 (f__law_same n) [x, x] = EM.ret (.bl true) := by
  intro n x h
  induction h with
  | @non n =>
    unfold f__law_same
    apply callF (by rfl)
    unfold b__law_same
    simp
  | @bl n b =>
    unfold f__law_same
    apply callF (by rfl)
    unfold b__law_same
    simp
  | @int n i =>
    unfold f__law_same
    apply callF (by rfl)
    unfold b__law_same
    have : isiD "bool" (.int i) = some false := isi_ib i
    simp
  | @str n i =>
    unfold f__law_same
    apply callF (by rfl)
    unfold b__law_same
    simp
  | @lst n xs h hl ih =>
    obtain ⟨s', e⟩ := same_seq (f__law_same n) (.lst xs) xs rfl ih hl
    unfold f__law_same
    generalize f__law_same n = fr at e ⊢
    apply callF (by rfl)
    unfold b__law_same
    show ans (sSeq _ _ [.fz (.lst xs), .fz (.lst xs), .no, .no]) = _
    iterate 9
      rw [x_seq]
      first
        | (rw [e]; rfl)
        | (rw [show sIf _ _ _ [Sl.fz (D.lst xs), .fz (.lst xs), .no, .no] = R.ok Fl.nx [.fz (.lst xs), .fz (.lst xs), .no, .no] from by simp]
           show ans (sSeq _ _ [.fz (.lst xs), .fz (.lst xs), .no, .no]) = _)
  | @tup n xs h hl ih =>
    obtain ⟨s', e⟩ := same_seq (f__law_same n) (.tup xs) xs rfl ih hl
    unfold f__law_same
    generalize f__law_same n = fr at e ⊢
    apply callF (by rfl)
    unfold b__law_same
    show ans (sSeq _ _ [.fz (.tup xs), .fz (.tup xs), .no, .no]) = _
    iterate 9
      rw [x_seq]
      first
        | (rw [e]; rfl)
        | (rw [show sIf _ _ _ [Sl.fz (D.tup xs), .fz (.tup xs), .no, .no] = R.ok Fl.nx [.fz (.tup xs), .fz (.tup xs), .no, .no] from by simp]
           show ans (sSeq _ _ [.fz (.tup xs), .fz (.tup xs), .no, .no]) = _)
end Wk

set_option Elab.async false
set_option linter.all false
set_option maxRecDepth 100000
set_option maxHeartbeats 4000000
/-! PL20: clauses drawn. -/
namespace Wk
open PySem DL L2
/-- a drawn term: its mark among ms, its back from 0 to deep -/
def dT (ms : List Mk) (deep : Int) (t : Tm) : Prop := t.1 ∈ ms ∧ 0 ≤ t.2 ∧ t.2 ≤ deep
theorem draw_io {fa : EM (List D)} {s : Dr} {r : List Sl} {L : Int} (ha : fa (.io s.l :: r) = .ok [.int L] (.io s.l :: r)) (h1 : 0 < L) (h2 : L < 1073741824) : ∃ (d : Int) (s' : Dr), eCallIO 0 f__law_draw fa (.io s.l :: r) = .ok (.int d) (.io s'.l :: r) ∧ 0 ≤ d ∧ d < L :=
  draw_go (j := 0) (ρ := .io s.l :: r) rfl ha h1 h2
theorem draw_ow {fa : EM (List D)} {s : Dr} {r0 : Sl} {r : List Sl} {L : Int} (ha : fa (r0 :: .ow s.l :: r) = .ok [.int L] (r0 :: .ow s.l :: r)) (h1 : 0 < L) (h2 : L < 1073741824) : ∃ (d : Int) (s' : Dr), eCallIO 1 f__law_draw fa (r0 :: .ow s.l :: r) = .ok (.int d) (r0 :: .ow s'.l :: r) ∧ 0 ≤ d ∧ d < L :=
  draw_go (j := 1) (ρ := r0 :: .ow s.l :: r) rfl ha h1 h2
theorem term_draw (ms : List Mk) (hms : ms ≠ []) (hml : ms.length ≤ 100) (deep : Int) (h0 : 0 ≤ deep) (h9 : deep ≤ 1000) (s : Dr) (r2 : Sl) (r : List Sl) : ∃ (t : Tm) (s' : Dr), dT ms deep t ∧
    (eTup (aCons (eIxV 1 (eCallIO 0 f__law_draw (aCons (eLenV 1) aNil))) (aCons (e2 gMul (eCallIO 0 f__law_draw (aCons (EM.ret (.int 2)) aNil)) (eCallIO 0 f__law_draw (aCons (e2 gAdd (eVar 3) (EM.ret (.int 1))) aNil))) aNil))) (.io s.l :: .fz (.lst (ms.map fun m => .str m.s)) :: r2 :: .fz (.int deep) :: r) = .ok (eT t) (.io s'.l :: .fz (.lst (ms.map fun m => .str m.s)) :: r2 :: .fz (.int deep) :: r) := by
  have hl : 0 < ms.length := List.length_pos_iff.mpr hms
  obtain ⟨d1, s1, e1, a1, b1⟩ := draw_io (fa := aCons (eLenV 1) aNil) (s := s) (r := .fz (.lst (ms.map fun m => .str m.s)) :: r2 :: .fz (.int deep) :: r) (L := ms.length) (by simp) (by omega) (by omega)
  obtain ⟨d2, s2, e2', a2, b2⟩ := draw_io (fa := aCons (EM.ret (.int 2)) aNil) (s := s1) (r := .fz (.lst (ms.map fun m => .str m.s)) :: r2 :: .fz (.int deep) :: r) (L := 2) (by simp) (by omega) (by omega)
  obtain ⟨d3, s3, e3, a3, b3⟩ := draw_io (fa := aCons (e2 gAdd (eVar 3) (EM.ret (.int 1))) aNil) (s := s2) (r := .fz (.lst (ms.map fun m => .str m.s)) :: r2 :: .fz (.int deep) :: r) (L := deep + 1) (by simp) (by omega) (by omega)
  have hi : d1.toNat < ms.length := by omega
  have hx : atI (ms.map fun m => D.str m.s) d1 = some (.str ms[d1.toNat].s) := by
    unfold atI ixN
    rw [List.length_map, if_pos a1, if_pos b1]
    simp [hi]
  refine ⟨(ms[d1.toNat], d2 * d3), s3, ⟨List.getElem_mem .., ?_, ?_⟩, ?_⟩
  · exact Int.mul_nonneg a2 a3
  · have : d2 = 0 ∨ d2 = 1 := by omega
    rcases this with e | e
    · rw [e]
      simpa using h0
    · rw [e]
      simp
      omega
  · have c1 : (eIxV 1 (eCallIO 0 f__law_draw (aCons (eLenV 1) aNil))) (.io s.l :: .fz (.lst (ms.map fun m => .str m.s)) :: r2 :: .fz (.int deep) :: r) = .ok (.str ms[d1.toNat].s) (.io s1.l :: .fz (.lst (ms.map fun m => .str m.s)) :: r2 :: .fz (.int deep) :: r) := by
      rw [x_ixv]
      show (eCallIO 0 f__law_draw (aCons (eLenV 1) aNil) (.io s.l :: .fz (.lst (ms.map fun m => .str m.s)) :: r2 :: .fz (.int deep) :: r)).bind _ = _
      rw [e1, x_rok]
      show EM.opt (atI (ms.map fun m => D.str m.s) d1) _ = _
      rw [hx]
      rfl
    have c2 : (e2 gMul (eCallIO 0 f__law_draw (aCons (EM.ret (.int 2)) aNil)) (eCallIO 0 f__law_draw (aCons (e2 gAdd (eVar 3) (EM.ret (.int 1))) aNil))) (.io s1.l :: .fz (.lst (ms.map fun m => .str m.s)) :: r2 :: .fz (.int deep) :: r) = .ok (.int (d2 * d3)) (.io s3.l :: .fz (.lst (ms.map fun m => .str m.s)) :: r2 :: .fz (.int deep) :: r) := by
      rw [x_e2, e2', x_rok, x_bind, e3, x_rok, x_mul, if_pos (by left; constructor <;> omega), x_some]
    rw [x_etup, x_acons, c1, x_rok, x_bind, x_acons, c2]
    rfl
end Wk

set_option Elab.async false
set_option linter.all false
set_option maxRecDepth 100000
set_option maxHeartbeats 4000000
/-! PL21: clauses drawn. -/
namespace Wk
open PySem DL L2
def mD (ms : List Mk) : D := .lst (ms.map fun m => .str m.s)
theorem clause_go (ms : List Mk) (hms : ms ≠ []) (hml : ms.length ≤ 100) (deep : Int) (h0 : 0 ≤ deep) (h9 : deep ≤ 1000) (r2 : Sl) (fo : List D) (s5 : Sl) : ∀ (xs : List Nat) (s : Dr) (c : List Tm) (s7 : Sl), c.length + xs.length ≤ 1000 → ∃ (ts : List Tm) (s' : Dr) (t7 : Sl), ts.length = xs.length ∧ (∀ t ∈ ts, dT ms deep t) ∧
    forD (.nm 7) (sApp 6 (aCons (eTup (aCons (eIxV 1 (eCallIO 0 f__law_draw (aCons (eLenV 1) aNil))) (aCons (e2 gMul (eCallIO 0 f__law_draw (aCons (EM.ret (.int 2)) aNil)) (eCallIO 0 f__law_draw (aCons (e2 gAdd (eVar 3) (EM.ret (.int 1))) aNil))) aNil))) aNil)) (xs.map fun k : Nat => D.int (0 + k)) [.io s.l, .fz (mD ms), r2, .fz (.int deep), .ow fo, s5, .ow (c.map eT), s7] =
      .ok .nx [.io s'.l, .fz (mD ms), r2, .fz (.int deep), .ow fo, s5, .ow ((c ++ ts).map eT), t7]
  | [], s, c, s7, _ => ⟨[], s, s7, rfl, fun _ h => (nomatch h), by rw [List.append_nil]; rfl⟩
  | x :: xs, s, c, s7, hl => by
    rw [List.length_cons] at hl
    obtain ⟨t, s1, ht, e⟩ := term_draw ms hms hml deep h0 h9 s r2 [.ow fo, s5, .ow (c.map eT), .fz (.int (0 + x))]
    obtain ⟨ts, s', t7, k1, k2, ih⟩ := clause_go ms hms hml deep h0 h9 r2 fo s5 xs s1 (c ++ [t]) (.fz (.int (0 + x))) (by rw [List.length_append, List.length_singleton]; omega)
    refine ⟨t :: ts, s', t7, by rw [List.length_cons, List.length_cons, k1], fun u hu => ?_, ?_⟩
    · rcases List.mem_cons.mp hu with h | h
      · rw [h]; exact ht
      · exact k2 u h
    · have hcat : c ++ t :: ts = c ++ [t] ++ ts := by simp
      rw [hcat, ← ih, List.map_cons]
      conv => lhs; unfold forD
      show stepF ((sApp 6 _) [.io s.l, .fz (mD ms), r2, .fz (.int deep), .ow fo, s5, .ow (c.map eT), .fz (.int (0 + x))]) _ = _
      have ea : (aCons (eTup (aCons (eIxV 1 (eCallIO 0 f__law_draw (aCons (eLenV 1) aNil))) (aCons (e2 gMul (eCallIO 0 f__law_draw (aCons (EM.ret (.int 2)) aNil)) (eCallIO 0 f__law_draw (aCons (e2 gAdd (eVar 3) (EM.ret (.int 1))) aNil))) aNil))) aNil) [.io s.l, .fz (mD ms), r2, .fz (.int deep), .ow fo, s5, .ow (c.map eT), .fz (.int (0 + x))] = .ok [eT t] [.io s1.l, .fz (mD ms), r2, .fz (.int deep), .ow fo, s5, .ow (c.map eT), .fz (.int (0 + x))] := by
        rw [x_acons]
        have e : eTup _ [.io s.l, .fz (mD ms), r2, .fz (.int deep), .ow fo, s5, .ow (c.map eT), .fz (.int (0 + x))] = _ := e
        rw [e]
        rfl
      have eb : sApp 6 (aCons (eTup (aCons (eIxV 1 (eCallIO 0 f__law_draw (aCons (eLenV 1) aNil))) (aCons (e2 gMul (eCallIO 0 f__law_draw (aCons (EM.ret (.int 2)) aNil)) (eCallIO 0 f__law_draw (aCons (e2 gAdd (eVar 3) (EM.ret (.int 1))) aNil))) aNil))) aNil) [.io s.l, .fz (mD ms), r2, .fz (.int deep), .ow fo, s5, .ow (c.map eT), .fz (.int (0 + x))] = .ok .nx [.io s1.l, .fz (mD ms), r2, .fz (.int deep), .ow fo, s5, .ow ((c ++ [t]).map eT), .fz (.int (0 + x))] := by
        rw [x_app, ea]
        show (if (c.map eT).length < LIM then _ else _) = _
        rw [if_pos (by rw [List.length_map, LIM_eq]; omega), List.map_append]
        rfl
      rw [eb]
      rfl
end Wk

set_option Elab.async false
set_option linter.all false
set_option maxRecDepth 100000
set_option maxHeartbeats 4000000
/-! PL22: clauses drawn. -/
namespace Wk
open PySem DL L2
def eLc (c : List Tm) : D := .lst (c.map eT)
/-- a drawn clause: one to three terms -/
def dC (ms : List Mk) (deep : Int) (c : List Tm) : Prop := c ≠ [] ∧ c.length ≤ 3 ∧ ∀ t ∈ c, dT ms deep t
theorem draw_rg {s : Dr} {r : List Sl} {L : Int} {fa : EM (List D)} (ha : fa (.io s.l :: r) = .ok [.int L] (.io s.l :: r)) (h1 : 0 < L) (h2 : L ≤ 1000) : ∃ (n : Nat) (s' : Dr), iRg1 (aCons (e2 gAdd (EM.ret (.int 1)) (eCallIO 0 f__law_draw fa)) aNil) (.io s.l :: r) = .ok (.rg 0 n) (.io s'.l :: r) ∧ 1 ≤ n ∧ (n : Int) ≤ L := by
  obtain ⟨d, s', e, k1, k2⟩ := draw_io ha h1 (by omega)
  refine ⟨(1 + d).toNat, s', ?_, by omega, by omega⟩
  have hn : (1 + d : Int) = ((1 + d).toNat : Nat) := by omega
  unfold iRg1
  rw [x_bind, x_acons, x_e2, x_ret, x_rok, x_bind, e, x_rok, x_add, x_some, x_rok, x_bind, x_anil, x_rok, x_ret, x_rok, hn, rg1 _ (by omega), x_ret, Int.toNat_natCast]
theorem clauses_go (ms : List Mk) (hms : ms ≠ []) (hml : ms.length ≤ 100) (deep : Int) (h0 : 0 ≤ deep) (h9 : deep ≤ 1000) (r2 : Sl) : ∀ (xs : List Nat) (s : Dr) (cs : List (List Tm)) (s5 s6 s7 : Sl), cs.length + xs.length ≤ 1000 → ∃ (ds : List (List Tm)) (s' : Dr) (t5 t6 t7 : Sl), ds.length = xs.length ∧ (∀ c ∈ ds, dC ms deep c) ∧
    forD (.nm 5) (sSeq (sAsgO 6 (oLst aNil)) (sSeq (sFor (.nm 7) (iRg1 (aCons (e2 gAdd (EM.ret (.int 1)) (eCallIO 0 f__law_draw (aCons (EM.ret (.int 3)) aNil))) aNil)) (sApp 6 (aCons (eTup (aCons (eIxV 1 (eCallIO 0 f__law_draw (aCons (eLenV 1) aNil))) (aCons (e2 gMul (eCallIO 0 f__law_draw (aCons (EM.ret (.int 2)) aNil)) (eCallIO 0 f__law_draw (aCons (e2 gAdd (eVar 3) (EM.ret (.int 1))) aNil))) aNil))) aNil))) (sApp 4 (aCons (eVar 6) aNil)))) (xs.map fun k : Nat => D.int (0 + k)) [.io s.l, .fz (mD ms), r2, .fz (.int deep), .ow (cs.map eLc), s5, s6, s7] =
      .ok .nx [.io s'.l, .fz (mD ms), r2, .fz (.int deep), .ow ((cs ++ ds).map eLc), t5, t6, t7]
  | [], s, cs, s5, s6, s7, _ => ⟨[], s, s5, s6, s7, rfl, fun _ h => (nomatch h), by rw [List.append_nil]; rfl⟩
  | x :: xs, s, cs, s5, s6, s7, hl => by
    rw [List.length_cons] at hl
    obtain ⟨n, s1, e1, n1, n2⟩ := draw_rg (s := s) (r := [.fz (mD ms), r2, .fz (.int deep), .ow (cs.map eLc), .fz (.int (0 + x)), .ow (([] : List Tm).map eT), s7]) (L := 3) (fa := aCons (EM.ret (.int 3)) aNil) rfl (by omega) (by omega)
    obtain ⟨ts, s2, u7, k1, k2, e2'⟩ := clause_go ms hms hml deep h0 h9 r2 (cs.map eLc) (.fz (.int (0 + x))) (List.range n) s1 [] s7 (by rw [List.length_range, List.length_nil]; omega)
    rw [List.length_range] at k1
    have hc : dC ms deep ts := ⟨fun e => by rw [e] at k1; simp at k1; omega, by omega, k2⟩
    obtain ⟨ds, s', t5, t6, t7, j1, j2, ih⟩ := clauses_go ms hms hml deep h0 h9 r2 xs s2 (cs ++ [ts]) (.fz (.int (0 + x))) (.fz (eLc ts)) u7 (by rw [List.length_append, List.length_singleton]; omega)
    refine ⟨ts :: ds, s', t5, t6, t7, by rw [List.length_cons, List.length_cons, j1], fun u hu => ?_, ?_⟩
    · rcases List.mem_cons.mp hu with h | h
      · rw [h]; exact hc
      · exact j2 u h
    · have hcat : cs ++ ts :: ds = cs ++ [ts] ++ ds := by simp
      rw [hcat, ← ih, List.map_cons]
      conv => lhs; unfold forD
      show stepF ((sSeq _ _) [.io s.l, .fz (mD ms), r2, .fz (.int deep), .ow (cs.map eLc), .fz (.int (0 + x)), s6, s7]) _ = _
      rw [x_seq]
      show stepF ((sSeq _ _) [.io s.l, .fz (mD ms), r2, .fz (.int deep), .ow (cs.map eLc), .fz (.int (0 + x)), .ow (([] : List Tm).map eT), s7]) _ = _
      rw [x_seq, for_src e1 trivial]
      show stepF (match forD _ _ ((List.range n).map fun k : Nat => D.int (0 + k)) [.io s1.l, .fz (mD ms), r2, .fz (.int deep), .ow (cs.map eLc), .fz (.int (0 + x)), .ow (([] : List Tm).map eT), s7] with
        | .ok .nx ρ' => sApp 4 (aCons (eVar 6) aNil) ρ'
        | r => r) _ = _
      rw [e2', List.nil_append]
      have eb : sApp 4 (aCons (eVar 6) aNil) [.io s2.l, .fz (mD ms), r2, .fz (.int deep), .ow (cs.map eLc), .fz (.int (0 + x)), .ow (ts.map eT), u7] = .ok .nx [.io s2.l, .fz (mD ms), r2, .fz (.int deep), .ow ((cs ++ [ts]).map eLc), .fz (.int (0 + x)), .fz (eLc ts), u7] := by
        show (if (cs.map eLc).length < LIM then _ else _) = _
        rw [if_pos (by rw [List.length_map, LIM_eq]; omega), List.map_append]
        rfl
      show stepF (sApp 4 (aCons (eVar 6) aNil) [.io s2.l, .fz (mD ms), r2, .fz (.int deep), .ow (cs.map eLc), .fz (.int (0 + x)), .ow (ts.map eT), u7]) _ = _
      rw [eb]
      rfl
theorem f_clauses (ms : List Mk) (hms : ms ≠ []) (hml : ms.length ≤ 100) (many deep : Int) (m0 : 0 < many) (m9 : many ≤ 900) (h0 : 0 ≤ deep) (h9 : deep ≤ 1000) (s : Dr) : ∃ (cs : List (List Tm)) (s' : Dr), cs ≠ [] ∧ (cs.length : Int) ≤ many ∧ (∀ c ∈ cs, dC ms deep c) ∧
    f__law_clauses (.io s.l :: [mD ms, .int many, .int deep].map .fz) = .ok (.lst (cs.map eLc)) (.io s'.l :: [mD ms, .int many, .int deep].map .fz) := by
  obtain ⟨n, s1, e1, n1, n2⟩ := draw_rg (s := s) (r := [.fz (mD ms), .fz (.int many), .fz (.int deep), .ow (([] : List (List Tm)).map eLc), .no, .no, .no]) (L := many) (fa := aCons (eVar 2) aNil) rfl m0 (by omega)
  obtain ⟨ds, s', t5, t6, t7, j1, j2, e⟩ := clauses_go ms hms hml deep h0 h9 (.fz (.int many)) (List.range n) s1 [] .no .no .no (by rw [List.length_range, List.length_nil]; omega)
  rw [List.length_range] at j1
  refine ⟨ds, s', fun e => by rw [e] at j1; simp at j1; omega, by omega, j2, ofIO (n := 4) (N := 8) (b := b__law_clauses) (by rfl) ?_⟩
  unfold b__law_clauses
  show ansIO ((sSeq (sAsgO 4 (oLst aNil)) _) [.io s.l, .fz (mD ms), .fz (.int many), .fz (.int deep), .no, .no, .no, .no]) = _
  rw [x_seq]
  show ansIO ((sSeq _ _) [.io s.l, .fz (mD ms), .fz (.int many), .fz (.int deep), .ow (([] : List (List Tm)).map eLc), .no, .no, .no]) = _
  rw [x_seq, for_src e1 trivial]
  show ansIO (match forD _ _ ((List.range n).map fun k : Nat => D.int (0 + k)) [.io s1.l, .fz (mD ms), .fz (.int many), .fz (.int deep), .ow (([] : List (List Tm)).map eLc), .no, .no, .no] with
    | .ok .nx ρ' => sRet (eVar 4) ρ'
    | r => r) = _
  rw [e]
  rfl
end Wk

set_option Elab.async false
set_option linter.all false
set_option maxRecDepth 100000
set_option maxHeartbeats 4000000
/-! PL23: normal forms of forms are canonical (plain). -/
namespace Wk
open PySem DL L2
/-! ### what maxs keeps -/
theorem stepM_keeps {α : Type} {le : α → α → Bool} (hr : ∀ x, le x x = true) (ht : ∀ x y z, le x y = true → le y z = true → le x z = true) {kept : List α} {x : α} (y : α) (hy : y ∈ kept ∨ y = x) : ∃ z ∈ stepM le kept x, le y z = true := by
  unfold stepM
  by_cases h : kept.any (le x) = true
  · rw [if_pos h]
    rcases hy with hy | hy
    · exact ⟨y, hy, hr y⟩
    · obtain ⟨z, hz, e⟩ := List.any_eq_true.mp h
      exact ⟨z, hz, by rw [hy]; exact e⟩
  · rw [if_neg h]
    rcases hy with hy | hy
    · by_cases e : le y x = true
      · exact ⟨x, List.mem_append_right _ (List.mem_singleton.mpr rfl), e⟩
      · refine ⟨y, List.mem_append_left _ (List.mem_filter.mpr ⟨hy, ?_⟩), hr y⟩
        cases z : le y x
        · rfl
        · exact absurd z e
    · exact ⟨x, List.mem_append_right _ (List.mem_singleton.mpr rfl), by rw [hy]; exact hr x⟩
theorem maxs_go {α : Type} {le : α → α → Bool} (hr : ∀ x, le x x = true) (ht : ∀ x y z, le x y = true → le y z = true → le x z = true) : ∀ (xs kept : List α) (y : α), y ∈ kept ∨ y ∈ xs → ∃ z ∈ xs.foldl (stepM le) kept, le y z = true
  | [], kept, y, hy => by
    rcases hy with h | h
    · exact ⟨y, h, hr y⟩
    · cases h
  | x :: xs, kept, y, hy => by
    have h : y ∈ xs ∨ ∃ z ∈ stepM le kept x, le y z = true := by
      rcases hy with h | h
      · exact .inr (stepM_keeps hr ht y (.inl h))
      · rcases List.mem_cons.mp h with h | h
        · exact .inr (stepM_keeps hr ht y (.inr h))
        · exact .inl h
    rw [List.foldl_cons]
    rcases h with h | ⟨z, hz, e⟩
    · exact maxs_go hr ht xs _ y (.inr h)
    · obtain ⟨u, hu, e2⟩ := maxs_go hr ht xs _ z (.inl hz)
      exact ⟨u, hu, ht _ _ _ e e2⟩
theorem maxs_keeps {α : Type} {le : α → α → Bool} (hr : ∀ x, le x x = true) (ht : ∀ x y z, le x y = true → le y z = true → le x z = true) {xs : List α} {y : α} (h : y ∈ xs) : ∃ z ∈ maxs le xs, le y z = true := maxs_go hr ht xs [] y (.inr h)
/-- none of the list is below another of it -/
def Anti {α : Type} (le : α → α → Bool) (l : List α) : Prop := l.Pairwise fun a b => le a b = false ∧ le b a = false
theorem stepM_anti {α : Type} {le : α → α → Bool} {kept : List α} (h : Anti le kept) (x : α) : Anti le (stepM le kept x) := by
  unfold stepM
  by_cases z : kept.any (le x) = true
  · rw [if_pos z]; exact h
  · rw [if_neg z]
    unfold Anti
    rw [List.pairwise_append]
    refine ⟨List.Pairwise.filter _ h, List.pairwise_singleton .., fun a ha b hb => ?_⟩
    rw [List.mem_singleton.mp hb]
    obtain ⟨h1, h2⟩ := List.mem_filter.mp ha
    refine ⟨by simpa using h2, ?_⟩
    cases e : le x a
    · rfl
    · exact absurd (List.any_eq_true.mpr ⟨a, h1, e⟩) z
theorem maxs_anti_go {α : Type} {le : α → α → Bool} : ∀ (xs kept : List α), Anti le kept → Anti le (xs.foldl (stepM le) kept)
  | [], _, h => h
  | x :: xs, _, h => maxs_anti_go xs _ (stepM_anti h x)
theorem maxs_anti {α : Type} {le : α → α → Bool} (xs : List α) : Anti le (maxs le xs) := maxs_anti_go xs [] .nil
theorem anti_eq {α : Type} {le : α → α → Bool} (hr : ∀ x, le x x = true) : ∀ {l : List α}, Anti le l → ∀ {x y : α}, x ∈ l → y ∈ l → le x y = true → x = y
  | [], _, _, _, hx, _, _ => nomatch hx
  | a :: l, h, x, y, hx, hy, e => by
    obtain ⟨h1, h2⟩ := List.pairwise_cons.mp h
    rcases List.mem_cons.mp hx with hx | hx <;> rcases List.mem_cons.mp hy with hy | hy
    · rw [hx, hy]
    · rw [hx, (h1 y hy).1] at e
      cases e
    · rw [hy, (h1 x hx).2] at e
      cases e
    · exact anti_eq hr h2 hx hy e
theorem anti_nodup {α : Type} {le : α → α → Bool} (hr : ∀ x, le x x = true) : ∀ {l : List α}, Anti le l → l.Nodup
  | [], _ => .nil
  | a :: l, h => by
    obtain ⟨h1, h2⟩ := List.pairwise_cons.mp h
    refine List.nodup_cons.mpr ⟨fun hm => ?_, anti_nodup hr h2⟩
    have := (h1 a hm).1
    rw [hr] at this
    cases this
/-- two of which each is below some of the other and none of them below another: the same members -/
theorem anti_same {α : Type} {le : α → α → Bool} {P : α → Prop} (hr : ∀ x, le x x = true) (ht : ∀ x y z, le x y = true → le y z = true → le x z = true) (ha : ∀ x y, P x → P y → le x y = true → le y x = true → x = y) {l m : List α} (hl : Anti le l) (pl : ∀ x ∈ l, P x) (pm : ∀ x ∈ m, P x) (h1 : ∀ x ∈ l, ∃ y ∈ m, le x y = true) (h2 : ∀ x ∈ m, ∃ y ∈ l, le x y = true) {x : α} (hx : x ∈ l) : x ∈ m := by
  obtain ⟨y, hy, e⟩ := h1 x hx
  obtain ⟨z, hz, e2⟩ := h2 y hy
  have e3 := anti_eq hr hl hx hz (ht _ _ _ e e2)
  rw [← e3] at e2
  rw [ha x y (pl x hx) (pm y hy) e e2]
  exact hy
/-! ### the order of ranks -/
theorem ltR_iff (x y : Int × Int) (xs ys : List (Int × Int)) : ltR (x :: xs) (y :: ys) = true ↔ (x.1 < y.1 ∨ (x.1 = y.1 ∧ (x.2 < y.2 ∨ (x.2 = y.2 ∧ ltR xs ys = true)))) := by
  rw [ltR_cons]
  cases h : ltR xs ys <;> simp <;> omega
theorem ltR_irr : ∀ a : List (Int × Int), ltR a a = false
  | [] => rfl
  | x :: xs => by
    cases z : ltR (x :: xs) (x :: xs)
    · rfl
    · have z := (ltR_iff x x xs xs).mp z
      rw [ltR_irr xs] at z
      simp at z
theorem ltR_trans : ∀ {a b c : List (Int × Int)}, ltR a b = true → ltR b c = true → ltR a c = true
  | [], [], _, h, _ => nomatch h
  | [], _ :: _, [], _, h => nomatch h
  | [], _ :: _, _ :: _, _, _ => rfl
  | _ :: _, [], _, h, _ => nomatch h
  | _ :: _, _ :: _, [], _, h => nomatch h
  | x :: xs, y :: ys, z :: zs, h1, h2 => by
    have h1 := (ltR_iff x y xs ys).mp h1
    have h2 := (ltR_iff y z ys zs).mp h2
    rw [ltR_iff]
    rcases h1 with h1 | ⟨h1, h1' | ⟨h1', h1''⟩⟩ <;> rcases h2 with h2 | ⟨h2, h2' | ⟨h2', h2''⟩⟩
    · left; omega
    · left; omega
    · left; omega
    · left; omega
    · right; exact ⟨by omega, .inl (by omega)⟩
    · right; exact ⟨by omega, .inl (by omega)⟩
    · left; omega
    · right; exact ⟨by omega, .inl (by omega)⟩
    · right; exact ⟨by omega, .inr ⟨by omega, ltR_trans h1'' h2''⟩⟩
theorem ltR_tot : ∀ {a b : List (Int × Int)}, ltR a b = false → ltR b a = false → a = b
  | [], [], _, _ => rfl
  | [], _ :: _, h, _ => nomatch h
  | _ :: _, [], _, h => nomatch h
  | x :: xs, y :: ys, h1, h2 => by
    have k1 := mt (ltR_iff x y xs ys).mpr (by rw [h1]; exact Bool.false_ne_true)
    have k2 := mt (ltR_iff y x ys xs).mpr (by rw [h2]; exact Bool.false_ne_true)
    have e1 : x.1 = y.1 := by omega
    have e2 : x.2 = y.2 := by
      by_cases z : x.2 < y.2
      · exact absurd (.inr ⟨e1, .inl z⟩) k1
      · by_cases z2 : y.2 < x.2
        · exact absurd (.inr ⟨e1.symm, .inl z2⟩) k2
        · omega
    have e3 : xs = ys := ltR_tot (by
      cases z : ltR xs ys
      · rfl
      · exact absurd (.inr ⟨e1, .inr ⟨e2, z⟩⟩) k1) (by
      cases z : ltR ys xs
      · rfl
      · exact absurd (.inr ⟨e1.symm, .inr ⟨e2.symm, z⟩⟩) k2)
    rw [e3, Prod.ext e1 e2]
/-! ### putting in order -/
structure Lt {α : Type} (lt : α → α → Bool) : Prop where
  irr : ∀ a, lt a a = false
  tr : ∀ {a b c}, lt a b = true → lt b c = true → lt a c = true
  tot : ∀ {a b}, lt a b = false → lt b a = false → a = b
theorem insL_sorted {α : Type} {lt : α → α → Bool} (L : Lt lt) {x : α} : ∀ {l : List α}, l.Pairwise (fun a b => lt a b = true) → x ∉ l → (insL lt x l).Pairwise (fun a b => lt a b = true)
  | [], _, _ => by simp [insL]
  | a :: l, h, hx => by
    obtain ⟨h1, h2⟩ := List.pairwise_cons.mp h
    have hxa : x ≠ a := fun e => hx (e ▸ List.mem_cons_self ..)
    have hxl : x ∉ l := fun e => hx (List.mem_cons_of_mem _ e)
    cases z : lt a x with
    | true =>
      have e : insL lt x (a :: l) = a :: insL lt x l := by simp [insL, z]
      rw [e, List.pairwise_cons]
      refine ⟨fun b hb => ?_, insL_sorted L h2 hxl⟩
      rcases insL_mem hb with hb | hb
      · exact h1 b hb
      · rw [hb]; exact z
    | false =>
      have e : insL lt x (a :: l) = x :: a :: l := by simp [insL, z]
      have k : lt x a = true := by
        cases w : lt x a
        · exact absurd (L.tot w z) hxa
        · rfl
      rw [e, List.pairwise_cons]
      refine ⟨fun b hb => ?_, h⟩
      rcases List.mem_cons.mp hb with hb | hb
      · rw [hb]; exact k
      · exact L.tr k (h1 b hb)
theorem sort_sorted_go {α : Type} {lt : α → α → Bool} (L : Lt lt) : ∀ (xs l : List α), l.Pairwise (fun a b => lt a b = true) → xs.Nodup → (∀ x ∈ xs, x ∉ l) → (xs.foldl (fun l x => insL lt x l) l).Pairwise (fun a b => lt a b = true)
  | [], _, h, _, _ => h
  | x :: xs, l, h, hn, hd => by
    obtain ⟨n1, n2⟩ := List.nodup_cons.mp hn
    refine sort_sorted_go L xs _ (insL_sorted L h (hd x (List.mem_cons_self ..))) n2 fun y hy hm => ?_
    rcases insL_mem hm with hm | hm
    · exact hd y (List.mem_cons_of_mem _ hy) hm
    · exact n1 (hm ▸ hy)
theorem sorted_eq {α : Type} {lt : α → α → Bool} (hi : ∀ a, lt a a = false) (ht : ∀ {a b c}, lt a b = true → lt b c = true → lt a c = true) : ∀ {l m : List α}, l.Pairwise (fun a b => lt a b = true) → m.Pairwise (fun a b => lt a b = true) → (∀ x, x ∈ l ↔ x ∈ m) → l = m
  | [], [], _, _, _ => rfl
  | [], b :: m, _, _, h => nomatch ((h b).mpr (List.mem_cons_self ..))
  | a :: l, [], _, _, h => nomatch ((h a).mp (List.mem_cons_self ..))
  | a :: l, b :: m, hl, hm, h => by
    obtain ⟨l1, l2⟩ := List.pairwise_cons.mp hl
    obtain ⟨m1, m2⟩ := List.pairwise_cons.mp hm
    have irr : ∀ {x : α}, lt x x = true → False := fun {x} e => by rw [hi] at e; cases e
    have e : a = b := by
      rcases List.mem_cons.mp ((h a).mp (List.mem_cons_self ..)) with ha | ha
      · exact ha
      · rcases List.mem_cons.mp ((h b).mpr (List.mem_cons_self ..)) with hb | hb
        · exact hb.symm
        · exact (irr (ht (l1 b hb) (m1 a ha))).elim
    subst e
    rw [sorted_eq hi ht l2 m2 fun x => ⟨fun hx => ?_, fun hx => ?_⟩]
    · rcases List.mem_cons.mp ((h x).mp (List.mem_cons_of_mem _ hx)) with e | e
      · rw [e] at hx
        exact (irr (l1 a hx)).elim
      · exact e
    · rcases List.mem_cons.mp ((h x).mpr (List.mem_cons_of_mem _ hx)) with e | e
      · rw [e] at hx
        exact (irr (m1 a hx)).elim
      · exact e
theorem sortL_eq {α : Type} {lt : α → α → Bool} (L : Lt lt) {l m : List α} (hl : l.Nodup) (hm : m.Nodup) (h : ∀ x, x ∈ l ↔ x ∈ m) : sortL lt l = sortL lt m :=
  sorted_eq L.irr L.tr (sort_sorted_go L l [] .nil hl fun _ _ h => nomatch h) (sort_sorted_go L m [] .nil hm fun _ _ h => nomatch h) fun x => by rw [mem_sortL, mem_sortL, h]
/-! ### the order of parts, groups, forms -/
theorem pLe_iff (p q : Pt) : pLe p q = true ↔ (q.1 = .none ∨ (p.1.n ≤ q.1.n ∧ p.2 ≤ q.2)) := by
  unfold pLe
  simp
theorem kn_none {k : Kd} (h : 3 ≤ k.n) : k = .none := by cases k <;> simp [Kd.n] at h ⊢
theorem kn_inj {k l : Kd} (h : k.n = l.n) : k = l := by cases k <;> cases l <;> simp [Kd.n] at h ⊢
theorem pLe_refl (p : Pt) : pLe p p = true := (pLe_iff p p).mpr (.inr ⟨Nat.le_refl _, Int.le_refl _⟩)
theorem pLe_trans (p q r : Pt) (h1 : pLe p q = true) (h2 : pLe q r = true) : pLe p r = true := by
  rw [pLe_iff] at h1 h2 ⊢
  rcases h2 with h2 | ⟨h2, h3⟩
  · exact .inl h2
  · rcases h1 with h1 | ⟨h1, h4⟩
    · rw [h1] at h2
      exact .inl (kn_none h2)
    · exact .inr ⟨Nat.le_trans h1 h2, Int.le_trans h4 h3⟩
theorem pLe_anti (p q : Pt) (h1 : pLe (zeroN p) (zeroN q) = true) (h2 : pLe (zeroN q) (zeroN p) = true) : zeroN p = zeroN q := by
  obtain ⟨k, a⟩ := p
  obtain ⟨l, b⟩ := q
  rw [pLe_iff] at h1 h2
  by_cases hk : k = .none
  · subst hk
    have hl : l = .none := by
      rcases h1 with h1 | ⟨h1, _⟩
      · exact h1
      · exact kn_none h1
    subst hl
    rfl
  · by_cases hl : l = .none
    · subst hl
      rcases h2 with h2 | ⟨h2, _⟩
      · exact absurd h2 hk
      · exact absurd (kn_none h2) hk
    · rcases h1 with h1 | ⟨h1, h1'⟩
      · exact absurd h1 hl
      rcases h2 with h2 | ⟨h2, h2'⟩
      · exact absurd h2 hk
      have e : k = l := kn_inj (Nat.le_antisymm h1 h2)
      exact Prod.ext e (Int.le_antisymm h1' h2')
theorem zeroN_le (p : Pt) : pLe (zeroN p) p = true ∧ pLe p (zeroN p) = true := by
  obtain ⟨k, a⟩ := p
  rw [pLe_iff, pLe_iff]
  by_cases h : k = .none
  · exact ⟨.inl h, .inl h⟩
  · simp [zeroN, h]
theorem gLe_iff (a b : List Pt) : gLeG a b = true ↔ ∀ p ∈ a, ∃ q ∈ b, pLe p q = true := by
  unfold gLeG
  simp only [List.all_eq_true, List.any_eq_true]
theorem gLe_refl (a : List Pt) : gLeG a a = true := (gLe_iff a a).mpr fun p hp => ⟨p, hp, pLe_refl p⟩
theorem gLe_trans (a b c : List Pt) (h1 : gLeG a b = true) (h2 : gLeG b c = true) : gLeG a c = true := by
  rw [gLe_iff] at h1 h2 ⊢
  intro p hp
  obtain ⟨q, hq, e⟩ := h1 p hp
  obtain ⟨r, hr, e2⟩ := h2 q hq
  exact ⟨r, hr, pLe_trans _ _ _ e e2⟩
theorem gLe_sub {a b : List Pt} (h : ∀ p ∈ a, p ∈ b) : gLeG a b = true := (gLe_iff a b).mpr fun p hp => ⟨p, h p hp, pLe_refl p⟩
theorem gLe_app {a b c : List Pt} (h1 : gLeG a c = true) (h2 : gLeG b c = true) : gLeG (a ++ b) c = true := by
  rw [gLe_iff] at h1 h2 ⊢
  intro p hp
  rcases List.mem_append.mp hp with h | h
  · exact h1 p h
  · exact h2 p h
theorem gLe_apps {a b c d : List Pt} (h1 : gLeG a b = true) (h2 : gLeG c d = true) : gLeG (a ++ c) (b ++ d) = true :=
  gLe_app (gLe_trans _ _ _ h1 (gLe_sub fun _ h => List.mem_append_left _ h)) (gLe_trans _ _ _ h2 (gLe_sub fun _ h => List.mem_append_right _ h))
theorem fLe_iff (a b : List (List Pt)) : fLe a b = true ↔ ∀ u ∈ b, ∃ l ∈ a, gLeG l u = true := by
  unfold fLe
  simp only [List.all_eq_true, List.any_eq_true]
theorem fLe_refl (a : List (List Pt)) : fLe a a = true := (fLe_iff a a).mpr fun p hp => ⟨p, hp, gLe_refl p⟩
theorem fLe_trans {a b c : List (List Pt)} (h1 : fLe a b = true) (h2 : fLe b c = true) : fLe a c = true := by
  rw [fLe_iff] at h1 h2 ⊢
  intro p hp
  obtain ⟨q, hq, e⟩ := h2 p hp
  obtain ⟨r, hr, e2⟩ := h1 q hq
  exact ⟨r, hr, gLe_trans _ _ _ e2 e⟩
def fEq (a b : List (List Pt)) : Prop := fLe a b = true ∧ fLe b a = true
theorem fEq.refl (a : List (List Pt)) : fEq a a := ⟨fLe_refl a, fLe_refl a⟩
theorem fEq.symm {a b : List (List Pt)} (h : fEq a b) : fEq b a := ⟨h.2, h.1⟩
theorem fEq.trans {a b c : List (List Pt)} (h : fEq a b) (h2 : fEq b c) : fEq a c := ⟨fLe_trans h.1 h2.1, fLe_trans h2.2 h.2⟩
theorem gParts_eq (g : List Pt) : gLeG (gParts g) g = true ∧ gLeG g (gParts g) = true := by
  refine ⟨gLe_sub fun p hp => mem_maxs (mem_gParts.mp hp), (gLe_iff _ _).mpr fun p hp => ?_⟩
  obtain ⟨z, hz, e⟩ := maxs_keeps pLe_refl pLe_trans hp
  exact ⟨z, mem_gParts.mpr hz, e⟩
theorem zeros_eq (g : List Pt) : gLeG (g.map zeroN) g = true ∧ gLeG g (g.map zeroN) = true := by
  refine ⟨(gLe_iff _ _).mpr fun p hp => ?_, (gLe_iff _ _).mpr fun p hp => ⟨zeroN p, List.mem_map.mpr ⟨p, hp, rfl⟩, (zeroN_le p).2⟩⟩
  obtain ⟨q, hq, e⟩ := List.mem_map.mp hp
  exact ⟨q, hq, by rw [← e]; exact (zeroN_le q).1⟩
def gN (g : List Pt) : List Pt := gParts (g.map zeroN)
theorem gN_eq (g : List Pt) : gLeG (gN g) g = true ∧ gLeG g (gN g) = true :=
  ⟨gLe_trans _ _ _ (gParts_eq _).1 (zeros_eq g).1, gLe_trans _ _ _ (zeros_eq g).2 (gParts_eq _).2⟩
theorem map_gN (A : List (List Pt)) : fEq (A.map gN) A := by
  refine ⟨(fLe_iff _ _).mpr fun u hu => ⟨gN u, List.mem_map.mpr ⟨u, hu, rfl⟩, (gN_eq u).1⟩, (fLe_iff _ _).mpr fun u hu => ?_⟩
  obtain ⟨v, hv, e⟩ := List.mem_map.mp hu
  exact ⟨v, hv, by rw [← e]; exact (gN_eq v).2⟩
abbrev gGe (a b : List Pt) : Bool := gLeG b a
theorem gGe_trans (a b c : List Pt) (h1 : gGe a b = true) (h2 : gGe b c = true) : gGe a c = true := gLe_trans _ _ _ h2 h1
theorem maxsG_eq (A : List (List Pt)) : fEq (maxs gGe A) A := by
  refine ⟨(fLe_iff _ _).mpr fun u hu => ?_, (fLe_iff _ _).mpr fun u hu => ⟨u, mem_maxs hu, gLe_refl u⟩⟩
  obtain ⟨z, hz, e⟩ := maxs_keeps (le := gGe) gLe_refl gGe_trans hu
  exact ⟨z, hz, e⟩
theorem fEq_mem {A B : List (List Pt)} (h : ∀ x, x ∈ A ↔ x ∈ B) : fEq A B :=
  ⟨(fLe_iff _ _).mpr fun u hu => ⟨u, (h u).mpr hu, gLe_refl u⟩, (fLe_iff _ _).mpr fun u hu => ⟨u, (h u).mp hu, gLe_refl u⟩⟩
theorem normG_fEq (A : List (List Pt)) : fEq (normG A) A :=
  (fEq_mem (B := maxs gGe (A.map gN)) fun x => mem_sortL).trans ((maxsG_eq _).trans (map_gN A))
/-! ### normal groups -/
theorem fil_kind {l : List Pt} (h : Anti pLe l) (k : Kd) (R : Pt → Pt → Prop) : (l.filter fun y => y.1 == k).Pairwise R := by
  have h2 : (l.filter fun y => y.1 == k).Pairwise fun a b => pLe a b = false ∧ pLe b a = false := List.Pairwise.filter _ h
  refine List.Pairwise.imp_of_mem (fun {a b} ha hb e => ?_) h2
  have ha : a.1 = k := by simpa using (List.mem_filter.mp ha).2
  have hb : b.1 = k := by simpa using (List.mem_filter.mp hb).2
  have e1 := mt (pLe_iff a b).mpr (by rw [e.1]; exact Bool.false_ne_true)
  have e2 := mt (pLe_iff b a).mpr (by rw [e.2]; exact Bool.false_ne_true)
  rw [ha, hb] at e1 e2
  exfalso
  by_cases z : a.2 ≤ b.2
  · exact e1 (.inr ⟨Nat.le_refl _, z⟩)
  · exact e2 (.inr ⟨Nat.le_refl _, by omega⟩)
def ltK (a b : Pt) : Bool := decide (a.1.n < b.1.n)
theorem gParts_sorted (g : List Pt) : (gParts g).Pairwise fun a b => ltK a b = true := by
  have hA : Anti pLe (maxs pLe g) := maxs_anti g
  have hk : ∀ k, ((maxs pLe g).filter fun y => y.1 == k).Pairwise fun a b => ltK a b = true := fun k => fil_kind hA k _
  have hm : ∀ (k l : Kd), k.n < l.n → ∀ a ∈ (maxs pLe g).filter fun y => y.1 == k, ∀ b ∈ (maxs pLe g).filter fun y => y.1 == l, ltK a b = true := fun k l h a ha b hb => by
    have ha : a.1 = k := by simpa using (List.mem_filter.mp ha).2
    have hb : b.1 = l := by simpa using (List.mem_filter.mp hb).2
    unfold ltK
    rw [ha, hb]
    simpa using h
  unfold gParts kds
  rw [List.flatMap_cons, List.flatMap_cons, List.flatMap_cons, List.flatMap_cons, List.flatMap_nil, List.append_nil]
  refine List.pairwise_append.mpr ⟨hk _, List.pairwise_append.mpr ⟨hk _, List.pairwise_append.mpr ⟨hk _, hk _, ?_⟩, ?_⟩, ?_⟩
  · exact hm _ _ (by decide)
  · intro a ha b hb
    rcases List.mem_append.mp hb with hb | hb
    · exact hm _ _ (by decide) a ha b hb
    · exact hm _ _ (by decide) a ha b hb
  · intro a ha b hb
    rcases List.mem_append.mp hb with hb | hb
    · exact hm _ _ (by decide) a ha b hb
    · rcases List.mem_append.mp hb with hb | hb
      · exact hm _ _ (by decide) a ha b hb
      · exact hm _ _ (by decide) a ha b hb
theorem gN_anti (g h : List Pt) (h1 : gLeG (gN g) (gN h) = true) (h2 : gLeG (gN h) (gN g) = true) : gN g = gN h := by
  have hz : ∀ (d : List Pt), ∀ x ∈ maxs pLe (d.map zeroN), ∃ p, x = zeroN p := fun d x hx => by
    obtain ⟨p, _, e⟩ := List.mem_map.mp (mem_maxs hx)
    exact ⟨p, e.symm⟩
  have ha : ∀ x y : Pt, (∃ p, x = zeroN p) → (∃ p, y = zeroN p) → pLe x y = true → pLe y x = true → x = y := fun x y ⟨p, e⟩ ⟨q, e'⟩ => by
    rw [e, e']
    exact pLe_anti p q
  have sub : ∀ d d' : List Pt, gLeG (gN d) (gN d') = true → gLeG (gN d') (gN d) = true → ∀ x ∈ gN d, x ∈ gN d' := fun d d' e1 e2 x hx => by
    rw [gLe_iff] at e1 e2
    refine mem_gParts.mpr (anti_same pLe_refl pLe_trans ha (maxs_anti (le := pLe) (d.map zeroN)) (hz d) (hz d') (fun y hy => ?_) (fun y hy => ?_) (mem_gParts.mp hx))
    · obtain ⟨q, hq, e⟩ := e1 y (mem_gParts.mpr hy)
      exact ⟨q, mem_gParts.mp hq, e⟩
    · obtain ⟨q, hq, e⟩ := e2 y (mem_gParts.mpr hy)
      exact ⟨q, mem_gParts.mp hq, e⟩
  refine sorted_eq (lt := ltK) (fun a => by simp [ltK]) (fun {a b c} e1 e2 => ?_) (gParts_sorted _) (gParts_sorted _) fun x => ⟨sub g h h1 h2 x, sub h g h2 h1 x⟩
  simp only [ltK, decide_eq_true_eq] at e1 e2 ⊢
  omega
theorem rk_inj : ∀ {a b : List Pt}, a.map rk = b.map rk → a = b
  | [], [], _ => rfl
  | [], _ :: _, h => nomatch h
  | _ :: _, [], h => nomatch h
  | p :: a, q :: b, h => by
    rw [List.map_cons, List.map_cons] at h
    injection h with h1 h2
    unfold rk at h1
    injection h1 with h1 h3
    have e : p.1 = q.1 := kn_inj (by omega)
    rw [rk_inj h2, Prod.ext e h3]
abbrev ltG (a b : List Pt) : Bool := ltR (a.map rk) (b.map rk)
theorem ltG_lt : Lt ltG := ⟨fun a => ltR_irr _, fun h1 h2 => ltR_trans h1 h2, fun h1 h2 => rk_inj (ltR_tot h1 h2)⟩
/-- forms that are each at most the other have the same normal form -/
theorem normG_canon {A B : List (List Pt)} (h : fEq A B) : normG A = normG B := by
  have hp : ∀ (C : List (List Pt)), ∀ x ∈ maxs gGe (C.map gN), ∃ p, x = gN p := fun d x hx => by
    obtain ⟨p, _, e⟩ := List.mem_map.mp (mem_maxs hx)
    exact ⟨p, e.symm⟩
  have ha : ∀ x y : List Pt, (∃ p, x = gN p) → (∃ p, y = gN p) → gGe x y = true → gGe y x = true → x = y := fun x y ⟨p, e⟩ ⟨q, e'⟩ => by
    rw [e, e']
    exact fun h1 h2 => gN_anti p q h2 h1
  have sub : ∀ C D : List (List Pt), fEq C D → ∀ x ∈ maxs gGe (C.map gN), x ∈ maxs gGe (D.map gN) := fun C D e x hx => by
    have e := ((maxsG_eq _).trans (map_gN C)).trans (e.trans ((maxsG_eq _).trans (map_gN D)).symm)
    obtain ⟨e1, e2⟩ := e
    rw [fLe_iff] at e1 e2
    exact anti_same (le := gGe) gLe_refl gGe_trans ha (maxs_anti (C.map gN)) (hp C) (hp D) e2 e1 hx
  exact sortL_eq ltG_lt (anti_nodup (le := gGe) gLe_refl (maxs_anti _)) (anti_nodup (le := gGe) gLe_refl (maxs_anti _)) fun x => ⟨sub A B h x, sub B A h.symm x⟩
/-! ### numbers -/
def oLe : Option Int → Option Int → Prop
  | _, none => True
  | some a, some b => a ≤ b
  | none, some _ => False
theorem oLe_refl : ∀ a : Option Int, oLe a a
  | none => trivial
  | some a => Int.le_refl a
theorem oLe_trans : ∀ {a b c : Option Int}, oLe a b → oLe b c → oLe a c
  | _, _, none, _, _ => trivial
  | some _, some _, some _, h1, h2 => Int.le_trans h1 h2
  | none, some _, some _, h, _ => h.elim
  | _, none, some _, _, h => h.elim
theorem oLe_anti : ∀ {a b : Option Int}, oLe a b → oLe b a → a = b
  | none, none, _, _ => rfl
  | some _, some _, h1, h2 => by rw [Int.le_antisymm h1 h2]
  | none, some _, h, _ => h.elim
  | some _, none, _, h => h.elim
theorem gNumF_le (lag len acc y : Option Int) (p : Pt) : oLe (gNumF lag len acc p) y ↔ (oLe acc y ∧ oLe (pNum lag len p) y) := by
  unfold gNumF
  cases y with
  | none => simp [oLe]
  | some c =>
    cases acc with
    | none => simp [oLe]
    | some b =>
      cases pNum lag len p with
      | none => simp [oLe]
      | some n =>
        simp only [Option.bind_some, Option.map_some, oLe]
        split <;> omega
theorem gNum_go (lag len y : Option Int) : ∀ (g : List Pt) (acc : Option Int), oLe (g.foldl (gNumF lag len) acc) y ↔ (oLe acc y ∧ ∀ p ∈ g, oLe (pNum lag len p) y)
  | [], acc => by simp
  | p :: g, acc => by
    rw [List.foldl_cons, gNum_go lag len y g, gNumF_le]
    simp only [List.mem_cons, forall_eq_or_imp, and_assoc]
theorem gNum_le (lag len y : Option Int) (g : List Pt) : oLe (gNum lag len g) y ↔ (oLe (some 0) y ∧ ∀ p ∈ g, oLe (pNum lag len p) y) := gNum_go lag len y g _
theorem fNumF_le (lag len acc y : Option Int) (g : List Pt) : oLe y (fNumF lag len acc g) ↔ (oLe y acc ∧ oLe y (gNum lag len g)) := by
  unfold fNumF
  cases gNum lag len g with
  | none => cases acc <;> simp [oLe]
  | some n =>
    cases acc with
    | none => simp [oLe]
    | some l =>
      cases y with
      | none => simp [oLe]
      | some c =>
        simp only [oLe]
        split <;> omega
theorem fNum_go (lag len y : Option Int) : ∀ (gs : List (List Pt)) (acc : Option Int), oLe y (gs.foldl (fNumF lag len) acc) ↔ (oLe y acc ∧ ∀ g ∈ gs, oLe y (gNum lag len g))
  | [], acc => by simp
  | p :: g, acc => by
    rw [List.foldl_cons, fNum_go lag len y g, fNumF_le]
    simp only [List.mem_cons, forall_eq_or_imp, and_assoc]
theorem fNum_le (lag len y : Option Int) (gs : List (List Pt)) : oLe y (fNum lag len gs) ↔ ∀ g ∈ gs, oLe y (gNum lag len g) := by
  unfold fNum
  rw [fNum_go]
  simp [oLe]
def nonneg : Option Int → Prop
  | none => True
  | some a => 0 ≤ a
theorem pNum_mono {lag len : Option Int} (h1 : nonneg lag) (h2 : nonneg len) {p q : Pt} (h : pLe p q = true) : oLe (pNum lag len p) (pNum lag len q) := by
  rw [pLe_iff] at h
  obtain ⟨k, a⟩ := p
  obtain ⟨l, b⟩ := q
  cases lag <;> cases len <;> cases k <;> cases l <;> simp [pNum, oLe, Kd.n, nonneg] at h h1 h2 ⊢ <;> omega
theorem gNum_mono {lag len : Option Int} (h1 : nonneg lag) (h2 : nonneg len) {a b : List Pt} (h : gLeG a b = true) : oLe (gNum lag len a) (gNum lag len b) := by
  obtain ⟨k1, k2⟩ := (gNum_le lag len _ b).mp (oLe_refl _)
  refine (gNum_le lag len _ a).mpr ⟨k1, fun p hp => ?_⟩
  obtain ⟨q, hq, e⟩ := (gLe_iff a b).mp h p hp
  exact oLe_trans (pNum_mono h1 h2 e) (k2 q hq)
theorem fNum_mono {lag len : Option Int} (h1 : nonneg lag) (h2 : nonneg len) {a b : List (List Pt)} (h : fLe a b = true) : oLe (fNum lag len a) (fNum lag len b) := by
  refine (fNum_le lag len _ b).mpr fun g hg => ?_
  obtain ⟨l, hl, e⟩ := (fLe_iff a b).mp h g hg
  exact oLe_trans ((fNum_le lag len _ a).mp (oLe_refl _) l hl) (gNum_mono h1 h2 e)
theorem fNum_eq {lag len : Option Int} (h1 : nonneg lag) (h2 : nonneg len) {a b : List (List Pt)} (h : fEq a b) : fNum lag len a = fNum lag len b := oLe_anti (fNum_mono h1 h2 h.1) (fNum_mono h1 h2 h.2)
end Wk

set_option Elab.async false
set_option linter.all false
set_option maxRecDepth 100000
set_option maxHeartbeats 4000000
/-! PL24: rules, their forms, the least keeping (plain). -/
namespace Wk
open PySem DL L2
/-! ### forms of rules -/
theorem fLe_app {a b c d : List (List Pt)} (h1 : fLe a b = true) (h2 : fLe c d = true) : fLe (a ++ c) (b ++ d) = true := by
  rw [fLe_iff] at h1 h2 ⊢
  intro u hu
  rcases List.mem_append.mp hu with h | h
  · obtain ⟨l, hl, e⟩ := h1 u h
    exact ⟨l, List.mem_append_left _ hl, e⟩
  · obtain ⟨l, hl, e⟩ := h2 u h
    exact ⟨l, List.mem_append_right _ hl, e⟩
theorem fEq.app {a b c d : List (List Pt)} (h1 : fEq a b) (h2 : fEq c d) : fEq (a ++ c) (b ++ d) := ⟨fLe_app h1.1 h2.1, fLe_app h1.2 h2.2⟩
theorem mem_prodC {α : Type} {a b : List (List α)} {c : List α} : c ∈ prodC a b ↔ ∃ x ∈ a, ∃ y ∈ b, c = x ++ y := by
  unfold prodC
  rw [List.mem_flatMap]
  constructor
  · rintro ⟨x, hx, h⟩
    obtain ⟨y, hy, e⟩ := List.mem_map.mp h
    exact ⟨x, hx, y, hy, e.symm⟩
  · rintro ⟨x, hx, y, hy, e⟩
    exact ⟨x, hx, List.mem_map.mpr ⟨y, hy, e.symm⟩⟩
theorem fLe_prod {a b c d : List (List Pt)} (h1 : fLe a b = true) (h2 : fLe c d = true) : fLe (prodC a c) (prodC b d) = true := by
  rw [fLe_iff] at h1 h2 ⊢
  intro u hu
  obtain ⟨x, hx, y, hy, e⟩ := mem_prodC.mp hu
  obtain ⟨x', hx', e1⟩ := h1 x hx
  obtain ⟨y', hy', e2⟩ := h2 y hy
  exact ⟨x' ++ y', mem_prodC.mpr ⟨x', hx', y', hy', rfl⟩, by rw [e]; exact gLe_apps e1 e2⟩
theorem fEq.prod {a b c d : List (List Pt)} (h1 : fEq a b) (h2 : fEq c d) : fEq (prodC a c) (prodC b d) := ⟨fLe_prod h1.1 h2.1, fLe_prod h1.2 h2.2⟩
def tf (t : Tm) : Pt := zeroN (mForm t.1, t.2)
/-- a clause's form, as one group -/
def gOf (c : List Tm) : List Pt := (.number, 0) :: c.map tf
def pF (cs : List (List Tm)) : List (List Pt) := [(.none, 0)] :: cs.map gOf
theorem cForm_go : ∀ (c : List Tm) (F : List (List Pt)) (g : List Pt), fEq F [g] → fEq (c.foldl cStep F) [g ++ c.map tf]
  | [], F, g, h => by simpa using h
  | t :: c, F, g, h => by
    have e : fEq (cStep F t) [g ++ [tf t]] := (normG_fEq _).trans (h.prod (fEq.refl [[tf t]]))
    have := cForm_go c _ _ e
    simpa using this
theorem cForm_eq (c : List Tm) : fEq (cForm c) [gOf c] := cForm_go c _ _ (fEq.refl _)
theorem normG_none : normG [[(.none, 0)]] = [[(.none, 0)]] := by decide
theorem pForm_go : ∀ (cs : List (List Tm)) (X : List (List Pt)), cs.foldl (fun F c => normG (F ++ cForm c)) (normG X) = normG (X ++ cs.map gOf)
  | [], X => by simp
  | c :: cs, X => by
    have e : normG (normG X ++ cForm c) = normG (X ++ [gOf c]) := normG_canon ((normG_fEq X).app (cForm_eq c))
    rw [List.foldl_cons, e, pForm_go cs (X ++ [gOf c])]
    simp
theorem pForm_eq (cs : List (List Tm)) : pForm cs = normG (pF cs) := by
  unfold pForm
  have h := pForm_go cs [[(.none, 0)]]
  rw [normG_none] at h
  rw [h]
  rfl
theorem pForm_fEq (cs : List (List Tm)) : fEq (pForm cs) (pF cs) := by
  rw [pForm_eq]
  exact normG_fEq _
/-! ### the order of terms, clauses, rules -/
theorem below_refl (m : Mk) : m.below m = true := by cases m <;> rfl
theorem below_trans (a b c : Mk) : a.below b = true → b.below c = true → a.below c = true := by cases a <;> cases b <;> cases c <;> decide
theorem below_zero (m : Mk) (h : m.below .zero = true) : m = .zero := by cases m <;> simp [Mk.below] at h ⊢
theorem gap00 (u l : Mk) : mGap u l none none = if u.below l = true then some 0 else none := by cases u <;> cases l <;> rfl
theorem t0_iff (a b : Tm) : tLe none none a b = true ↔ (a.1 = .zero ∨ (a.1.below b.1 = true ∧ b.2 ≤ a.2)) := by
  unfold tLe
  rw [gap00]
  by_cases h : a.1.below b.1 = true
  · rw [if_pos h]
    simp [h]
    all_goals omega
  · rw [if_neg h]
    simp [h]
theorem t0_refl (a : Tm) : tLe none none a a = true := (t0_iff a a).mpr (.inr ⟨below_refl _, Int.le_refl _⟩)
theorem t0_trans (a b c : Tm) (h1 : tLe none none a b = true) (h2 : tLe none none b c = true) : tLe none none a c = true := by
  rw [t0_iff] at h1 h2 ⊢
  rcases h1 with h1 | ⟨h1, h3⟩
  · exact .inl h1
  · rcases h2 with h2 | ⟨h2, h4⟩
    · rw [h2] at h1
      exact .inl (below_zero _ h1)
    · exact .inr ⟨below_trans _ _ _ h1 h2, by omega⟩
theorem cLe_iff (lag len : Option Int) (a b : List Tm) : cLe lag len a b = true ↔ ∀ u ∈ b, ∃ l ∈ a, tLe lag len l u = true := by
  unfold cLe
  simp only [List.all_eq_true, List.any_eq_true]
theorem csLe_iff (lag len : Option Int) (a b : List (List Tm)) : csLe lag len a b = true ↔ ∀ x ∈ a, ∃ y ∈ b, cLe lag len x y = true := by
  unfold csLe
  simp only [List.all_eq_true, List.any_eq_true]
theorem c0_refl (a : List Tm) : cLe none none a a = true := (cLe_iff ..).mpr fun p hp => ⟨p, hp, t0_refl p⟩
theorem c0_trans (a b c : List Tm) (h1 : cLe none none a b = true) (h2 : cLe none none b c = true) : cLe none none a c = true := by
  rw [cLe_iff] at h1 h2 ⊢
  intro p hp
  obtain ⟨q, hq, e⟩ := h2 p hp
  obtain ⟨r, hr, e2⟩ := h1 q hq
  exact ⟨r, hr, t0_trans _ _ _ e2 e⟩
theorem c0_sub {a b : List Tm} (h : ∀ p ∈ b, p ∈ a) : cLe none none a b = true := (cLe_iff ..).mpr fun p hp => ⟨p, h p hp, t0_refl p⟩
theorem c0_apps {a b c d : List Tm} (h1 : cLe none none a b = true) (h2 : cLe none none c d = true) : cLe none none (a ++ c) (b ++ d) = true := by
  rw [cLe_iff] at h1 h2 ⊢
  intro p hp
  rcases List.mem_append.mp hp with h | h
  · obtain ⟨r, hr, e⟩ := h1 p h
    exact ⟨r, List.mem_append_left _ hr, e⟩
  · obtain ⟨r, hr, e⟩ := h2 p h
    exact ⟨r, List.mem_append_right _ hr, e⟩
abbrev rLe (a b : List (List Tm)) : Prop := csLe none none a b = true
theorem r0_refl (a : List (List Tm)) : rLe a a := (csLe_iff ..).mpr fun p hp => ⟨p, hp, c0_refl p⟩
theorem r0_trans {a b c : List (List Tm)} (h1 : rLe a b) (h2 : rLe b c) : rLe a c := by
  unfold rLe at *
  rw [csLe_iff] at h1 h2 ⊢
  intro p hp
  obtain ⟨q, hq, e⟩ := h1 p hp
  obtain ⟨r, hr, e2⟩ := h2 q hq
  exact ⟨r, hr, c0_trans _ _ _ e e2⟩
structure rEq (a b : List (List Tm)) : Prop where
  le : rLe a b
  ge : rLe b a
theorem rEq.refl (a : List (List Tm)) : rEq a a := ⟨r0_refl a, r0_refl a⟩
theorem rEq.symm {a b : List (List Tm)} (h : rEq a b) : rEq b a := ⟨h.2, h.1⟩
theorem rEq.trans {a b c : List (List Tm)} (h : rEq a b) (h2 : rEq b c) : rEq a c := ⟨r0_trans h.1 h2.1, r0_trans h2.2 h.2⟩
theorem zeroT_le (t : Tm) : tLe none none (zeroT t) t = true ∧ tLe none none t (zeroT t) = true := by
  rw [t0_iff, t0_iff]
  obtain ⟨m, b⟩ := t
  by_cases h : m = .zero
  · exact ⟨.inl h, .inl h⟩
  · simp [zeroT, h, below_refl]
def cN (c : List Tm) : List Tm := sTerms (c.map zeroT)
theorem cN_eq (c : List Tm) : cLe none none (cN c) c = true ∧ cLe none none c (cN c) = true := by
  have h1 : cLe none none (c.map zeroT) c = true ∧ cLe none none c (c.map zeroT) = true := by
    refine ⟨(cLe_iff ..).mpr fun p hp => ⟨zeroT p, List.mem_map.mpr ⟨p, hp, rfl⟩, (zeroT_le p).1⟩, (cLe_iff ..).mpr fun p hp => ?_⟩
    obtain ⟨q, hq, e⟩ := List.mem_map.mp hp
    exact ⟨q, hq, by rw [← e]; exact (zeroT_le q).2⟩
  have h2 : cLe none none (cN c) (c.map zeroT) = true ∧ cLe none none (c.map zeroT) (cN c) = true := by
    refine ⟨(cLe_iff ..).mpr fun p hp => ?_, c0_sub fun p hp => mem_maxs (mem_sTerms.mp hp)⟩
    obtain ⟨z, hz, e⟩ := maxs_keeps (le := tGe) t0_refl (fun x y z h1 h2 => t0_trans _ _ _ h2 h1) hp
    exact ⟨z, mem_sTerms.mpr hz, e⟩
  exact ⟨c0_trans _ _ _ h2.1 h1.1, c0_trans _ _ _ h1.2 h2.2⟩
theorem rEq_mem {A B : List (List Tm)} (h : ∀ x, x ∈ A ↔ x ∈ B) : rEq A B :=
  ⟨(csLe_iff ..).mpr fun u hu => ⟨u, (h u).mp hu, c0_refl u⟩, (csLe_iff ..).mpr fun u hu => ⟨u, (h u).mpr hu, c0_refl u⟩⟩
theorem normR_rEq (A : List (List Tm)) : rEq (normR A) A := by
  have h1 : rEq (normR A) (maxs (cLe none none) (A.map cN)) := rEq_mem fun x => mem_sortL
  have h2 : rEq (maxs (cLe none none) (A.map cN)) (A.map cN) := by
    refine ⟨(csLe_iff ..).mpr fun u hu => ⟨u, mem_maxs hu, c0_refl u⟩, (csLe_iff ..).mpr fun u hu => ?_⟩
    obtain ⟨z, hz, e⟩ := maxs_keeps (le := cLe none none) c0_refl c0_trans hu
    exact ⟨z, hz, e⟩
  have h3 : rEq (A.map cN) A := by
    refine ⟨(csLe_iff ..).mpr fun u hu => ?_, (csLe_iff ..).mpr fun u hu => ⟨cN u, List.mem_map.mpr ⟨u, hu, rfl⟩, (cN_eq u).2⟩⟩
    obtain ⟨v, hv, e⟩ := List.mem_map.mp hu
    exact ⟨v, hv, by rw [← e]; exact (cN_eq v).1⟩
  exact h1.trans (h2.trans h3)
theorem rLe_app {a b c d : List (List Tm)} (h1 : rLe a b) (h2 : rLe c d) : rLe (a ++ c) (b ++ d) := by
  unfold rLe at *
  rw [csLe_iff] at h1 h2 ⊢
  intro u hu
  rcases List.mem_append.mp hu with h | h
  · obtain ⟨l, hl, e⟩ := h1 u h
    exact ⟨l, List.mem_append_left _ hl, e⟩
  · obtain ⟨l, hl, e⟩ := h2 u h
    exact ⟨l, List.mem_append_right _ hl, e⟩
theorem rEq.app {a b c d : List (List Tm)} (h1 : rEq a b) (h2 : rEq c d) : rEq (a ++ c) (b ++ d) := ⟨rLe_app h1.1 h2.1, rLe_app h1.2 h2.2⟩
theorem rLe_prod {a b c d : List (List Tm)} (h1 : rLe a b) (h2 : rLe c d) : rLe (prodC a c) (prodC b d) := by
  unfold rLe at *
  rw [csLe_iff] at h1 h2 ⊢
  intro u hu
  obtain ⟨x, hx, y, hy, e⟩ := mem_prodC.mp hu
  obtain ⟨x', hx', e1⟩ := h1 x hx
  obtain ⟨y', hy', e2⟩ := h2 y hy
  exact ⟨x' ++ y', mem_prodC.mpr ⟨x', hx', y', hy', rfl⟩, by rw [e]; exact c0_apps e1 e2⟩
theorem rEq.prod {a b c d : List (List Tm)} (h1 : rEq a b) (h2 : rEq c d) : rEq (prodC a c) (prodC b d) := ⟨rLe_prod h1.1 h2.1, rLe_prod h1.2 h2.2⟩
abbrev shR (k : Int) (a : List (List Tm)) : List (List Tm) := a.map fun c => c.map (shiftT k)
theorem rLe_shift {a b : List (List Tm)} (k : Int) (h : rLe a b) : rLe (shR k a) (shR k b) := by
  unfold rLe shR at *
  rw [csLe_iff] at h ⊢
  intro u hu
  obtain ⟨x, hx, e⟩ := List.mem_map.mp hu
  obtain ⟨y, hy, e1⟩ := h x hx
  refine ⟨y.map (shiftT k), List.mem_map.mpr ⟨y, hy, rfl⟩, ?_⟩
  rw [← e]
  rw [cLe_iff] at e1 ⊢
  intro p hp
  obtain ⟨q, hq, e2⟩ := List.mem_map.mp hp
  obtain ⟨l, hl, e3⟩ := e1 q hq
  refine ⟨shiftT k l, List.mem_map.mpr ⟨l, hl, rfl⟩, ?_⟩
  rw [← e2, t0_iff]
  rw [t0_iff] at e3
  rcases e3 with e3 | ⟨e3, e4⟩
  · exact .inl e3
  · exact .inr ⟨e3, by simp only [shiftT]; omega⟩
theorem rEq.shift {a b : List (List Tm)} (k : Int) (h : rEq a b) : rEq (shR k a) (shR k b) := ⟨rLe_shift k h.1, rLe_shift k h.2⟩
/-! ### rules and forms -/
theorem tf_anti {l u : Tm} (h : tLe none none l u = true) : pLe (tf u) (tf l) = true := by
  rw [t0_iff] at h
  obtain ⟨m, b⟩ := l
  obtain ⟨n, d⟩ := u
  rw [pLe_iff]
  rcases h with h | ⟨h, h2⟩
  · have h : m = .zero := h
    subst h
    exact .inl rfl
  · cases m <;> cases n <;> simp [Mk.below, tf, mForm, zeroN, Kd.n] at h h2 ⊢ <;> exact h2
theorem gOf_anti {x y : List Tm} (h : cLe none none x y = true) : gLeG (gOf y) (gOf x) = true := by
  rw [cLe_iff] at h
  rw [gLe_iff]
  intro p hp
  rcases List.mem_cons.mp hp with hp | hp
  · exact ⟨_, List.mem_cons_self .., by rw [hp]; exact pLe_refl _⟩
  · obtain ⟨u, hu, e⟩ := List.mem_map.mp hp
    obtain ⟨l, hl, e2⟩ := h u hu
    exact ⟨tf l, List.mem_cons_of_mem _ (List.mem_map.mpr ⟨l, hl, rfl⟩), by rw [← e]; exact tf_anti e2⟩
theorem pF_anti {a b : List (List Tm)} (h : rLe a b) : fLe (pF b) (pF a) = true := by
  unfold rLe at h
  rw [csLe_iff] at h
  rw [fLe_iff]
  intro u hu
  rcases List.mem_cons.mp hu with hu | hu
  · exact ⟨_, List.mem_cons_self .., by rw [hu]; exact gLe_refl _⟩
  · obtain ⟨x, hx, e⟩ := List.mem_map.mp hu
    obtain ⟨y, hy, e2⟩ := h x hx
    exact ⟨gOf y, List.mem_cons_of_mem _ (List.mem_map.mpr ⟨y, hy, rfl⟩), by rw [← e]; exact gOf_anti e2⟩
theorem pF_eq {a b : List (List Tm)} (h : rEq a b) : fEq (pF a) (pF b) := ⟨pF_anti h.2, pF_anti h.1⟩
theorem pForm_anti {a b : List (List Tm)} (h : rLe a b) : fLe (pForm b) (pForm a) = true := fLe_trans (pForm_fEq b).1 (fLe_trans (pF_anti h) (pForm_fEq a).2)
theorem g_top (g : List Pt) (h : (Kd.none, (0 : Int)) ∈ g) (l : List Pt) : gLeG l g = true := (gLe_iff ..).mpr fun p _ => ⟨_, h, (pLe_iff ..).mpr (.inl rfl)⟩
theorem pF_prod (a b : List (List Tm)) : fEq (pF (prodC a b)) (prodC (pF a) (pF b)) := by
  constructor
  · rw [fLe_iff]
    intro u hu
    obtain ⟨x, hx, y, hy, e⟩ := mem_prodC.mp hu
    rcases List.mem_cons.mp hx with hx | hx
    · exact ⟨_, List.mem_cons_self .., g_top _ (by rw [e, hx]; simp) _⟩
    · rcases List.mem_cons.mp hy with hy | hy
      · exact ⟨_, List.mem_cons_self .., g_top _ (by rw [e, hy]; simp) _⟩
      · obtain ⟨c, hc, e1⟩ := List.mem_map.mp hx
        obtain ⟨d, hd, e2⟩ := List.mem_map.mp hy
        refine ⟨gOf (c ++ d), List.mem_cons_of_mem _ (List.mem_map.mpr ⟨_, mem_prodC.mpr ⟨c, hc, d, hd, rfl⟩, rfl⟩), gLe_sub fun p hp => ?_⟩
        rw [e, ← e1, ← e2]
        unfold gOf at hp ⊢
        rw [List.map_append] at hp
        simp at hp ⊢
        rcases hp with hp | hp | hp
        · exact .inl hp
        · exact .inr (.inl hp)
        · exact .inr (.inr (.inr hp))
  · rw [fLe_iff]
    intro u hu
    rcases List.mem_cons.mp hu with hu | hu
    · exact ⟨_, mem_prodC.mpr ⟨_, List.mem_cons_self .., _, List.mem_cons_self .., rfl⟩, g_top _ (by rw [hu]; simp) _⟩
    · obtain ⟨z, hz, e⟩ := List.mem_map.mp hu
      obtain ⟨c, hc, d, hd, e1⟩ := mem_prodC.mp hz
      refine ⟨gOf c ++ gOf d, mem_prodC.mpr ⟨_, List.mem_cons_of_mem _ (List.mem_map.mpr ⟨c, hc, rfl⟩), _, List.mem_cons_of_mem _ (List.mem_map.mpr ⟨d, hd, rfl⟩), rfl⟩, gLe_sub fun p hp => ?_⟩
      rw [← e, e1]
      unfold gOf at hp ⊢
      rw [List.map_append]
      simp at hp ⊢
      rcases hp with hp | hp | hp | hp
      · exact .inl hp
      · exact .inr (.inl hp)
      · exact .inl hp
      · exact .inr (.inr hp)
theorem pF_app (a b : List (List Tm)) : fEq (pF (a ++ b)) (pF a ++ pF b) := fEq_mem fun x => by
  unfold pF
  simp
  constructor
  · rintro (h | h | h)
    · exact .inl h
    · exact .inr (.inl h)
    · exact .inr (.inr (.inr h))
  · rintro (h | h | h | h)
    · exact .inl h
    · exact .inr (.inl h)
    · exact .inl h
    · exact .inr (.inr h)
abbrev shF (k : Int) (a : List (List Pt)) : List (List Pt) := a.map fun g => g.map (shiftP k)
theorem gLe_shift {a b : List Pt} (k : Int) (h : gLeG a b = true) : gLeG (a.map (shiftP k)) (b.map (shiftP k)) = true := by
  rw [gLe_iff] at h ⊢
  intro p hp
  obtain ⟨q, hq, e⟩ := List.mem_map.mp hp
  obtain ⟨r, hr, e1⟩ := h q hq
  refine ⟨shiftP k r, List.mem_map.mpr ⟨r, hr, rfl⟩, ?_⟩
  rw [← e]
  rw [pLe_iff] at e1 ⊢
  rcases e1 with e1 | ⟨e1, e2⟩
  · exact .inl e1
  · exact .inr ⟨e1, by simp only [shiftP]; omega⟩
theorem fLe_shift {a b : List (List Pt)} (k : Int) (h : fLe a b = true) : fLe (shF k a) (shF k b) = true := by
  rw [fLe_iff] at h ⊢
  intro u hu
  obtain ⟨x, hx, e⟩ := List.mem_map.mp hu
  obtain ⟨y, hy, e1⟩ := h x hx
  exact ⟨_, List.mem_map.mpr ⟨y, hy, rfl⟩, by rw [← e]; exact gLe_shift k e1⟩
theorem fEq.shift {a b : List (List Pt)} (k : Int) (h : fEq a b) : fEq (shF k a) (shF k b) := ⟨fLe_shift k h.1, fLe_shift k h.2⟩
theorem tf_shift (k : Int) (t : Tm) : pLe (tf (shiftT k t)) (shiftP k (tf t)) = true ∧ pLe (shiftP k (tf t)) (tf (shiftT k t)) = true := by
  rw [pLe_iff, pLe_iff]
  obtain ⟨m, b⟩ := t
  by_cases h : mForm m = .none
  · exact ⟨.inl h, .inl h⟩
  · simp [tf, shiftT, shiftP, zeroN, h]
theorem pF_shift (k : Int) (hk : 0 ≤ k) (a : List (List Tm)) (ha : ∀ c ∈ a, c ≠ [] ∧ ∀ t ∈ c, 0 ≤ t.2) : fEq (pF (shR k a)) (shF k (pF a)) := by
  have hg : ∀ c ∈ a, gLeG (gOf (c.map (shiftT k))) ((gOf c).map (shiftP k)) = true ∧ gLeG ((gOf c).map (shiftP k)) (gOf (c.map (shiftT k))) = true := fun c hc => by
    obtain ⟨hne, hp⟩ := ha c hc
    constructor
    · rw [gLe_iff]
      intro p hp
      rcases List.mem_cons.mp hp with hp | hp
      · refine ⟨(.number, 0 + k), List.mem_map.mpr ⟨(.number, 0), List.mem_cons_self .., rfl⟩, ?_⟩
        rw [hp, pLe_iff]
        exact .inr ⟨Nat.le_refl _, by show (0 : Int) ≤ 0 + k; omega⟩
      · obtain ⟨q, hq, e⟩ := List.mem_map.mp hp
        obtain ⟨t, ht, e1⟩ := List.mem_map.mp hq
        refine ⟨shiftP k (tf t), List.mem_map.mpr ⟨tf t, List.mem_cons_of_mem _ (List.mem_map.mpr ⟨t, ht, rfl⟩), rfl⟩, ?_⟩
        rw [← e, ← e1]
        exact (tf_shift k t).1
    · rw [gLe_iff]
      intro p hp'
      obtain ⟨q, hq, e⟩ := List.mem_map.mp hp'
      rcases List.mem_cons.mp hq with hq | hq
      · obtain ⟨t, ht⟩ := List.exists_mem_of_ne_nil c hne
        refine ⟨tf (shiftT k t), List.mem_cons_of_mem _ (List.mem_map.mpr ⟨shiftT k t, List.mem_map.mpr ⟨t, ht, rfl⟩, rfl⟩), ?_⟩
        have h0 := hp t ht
        rw [← e, hq, pLe_iff]
        obtain ⟨m, b⟩ := t
        by_cases h : mForm m = .none
        · exact .inl h
        · refine .inr ⟨Nat.zero_le _, ?_⟩
          have h0 : 0 ≤ b := h0
          simp [tf, shiftT, shiftP, zeroN, h]
          omega
      · obtain ⟨t, ht, e1⟩ := List.mem_map.mp hq
        refine ⟨tf (shiftT k t), List.mem_cons_of_mem _ (List.mem_map.mpr ⟨shiftT k t, List.mem_map.mpr ⟨t, ht, rfl⟩, rfl⟩), ?_⟩
        rw [← e, ← e1]
        exact (tf_shift k t).2
  have ht : gLeG [(.none, 0)] [(.none, 0 + k)] = true ∧ gLeG [(.none, 0 + k)] [(.none, 0)] = true := by
    rw [gLe_iff, gLe_iff]
    exact ⟨fun p _ => ⟨_, List.mem_cons_self .., (pLe_iff ..).mpr (.inl rfl)⟩, fun p _ => ⟨_, List.mem_cons_self .., (pLe_iff ..).mpr (.inl rfl)⟩⟩
  constructor
  · rw [fLe_iff]
    intro u hu
    obtain ⟨g, hg', e⟩ := List.mem_map.mp hu
    rcases List.mem_cons.mp hg' with h | h
    · exact ⟨_, List.mem_cons_self .., by rw [← e, h]; exact ht.1⟩
    · obtain ⟨c, hc, e1⟩ := List.mem_map.mp h
      exact ⟨gOf (c.map (shiftT k)), List.mem_cons_of_mem _ (List.mem_map.mpr ⟨_, List.mem_map.mpr ⟨c, hc, rfl⟩, rfl⟩), by rw [← e, ← e1]; exact (hg c hc).1⟩
  · rw [fLe_iff]
    intro u hu
    rcases List.mem_cons.mp hu with h | h
    · exact ⟨_, List.mem_map.mpr ⟨_, List.mem_cons_self .., rfl⟩, by rw [h]; exact ht.2⟩
    · obtain ⟨z, hz, e⟩ := List.mem_map.mp h
      obtain ⟨c, hc, e1⟩ := List.mem_map.mp hz
      exact ⟨_, List.mem_map.mpr ⟨gOf c, List.mem_cons_of_mem _ (List.mem_map.mpr ⟨c, hc, rfl⟩), rfl⟩, by rw [← e, ← e1]; exact (hg c hc).2⟩
/-! ### kept for ever -/
theorem ever_anti {a b : List (List Tm)} (h : rLe a b) (hb : forEver b = true) : forEver a = true := by
  unfold rLe at h
  rw [csLe_iff] at h
  unfold forEver at hb ⊢
  rw [List.all_eq_true] at hb ⊢
  intro x hx
  obtain ⟨y, hy, e⟩ := h x hx
  obtain ⟨u, hu, e2⟩ := List.any_eq_true.mp (hb y hy)
  obtain ⟨l, hl, e3⟩ := (cLe_iff ..).mp e u hu
  refine List.any_eq_true.mpr ⟨l, hl, ?_⟩
  rw [t0_iff] at e3
  obtain ⟨m, i⟩ := l
  obtain ⟨n, j⟩ := u
  cases m <;> cases n <;> simp [Mk.below] at e2 e3 ⊢
theorem ever_eq {a b : List (List Tm)} (h : rEq a b) : forEver a = forEver b := by
  cases z : forEver a with
  | true => exact (ever_anti h.2 z).symm
  | false =>
    cases w : forEver b with
    | true => rw [ever_anti h.1 w] at z; exact z.symm
    | false => rfl
theorem ever_app (a b : List (List Tm)) : forEver (a ++ b) = (forEver a && forEver b) := by
  unfold forEver
  rw [List.all_append]
theorem ever_prod (a b : List (List Tm)) : forEver (prodC a b) = (forEver a || forEver b) := by
  have h : forEver (prodC a b) = true ↔ (forEver a = true ∨ forEver b = true) := by
    unfold forEver
    rw [List.all_eq_true, List.all_eq_true, List.all_eq_true]
    constructor
    · intro h
      by_cases k : ∀ x ∈ a, (x.any fun t => t.1 == .zero || t.1 == .calm) = true
      · exact .inl k
      · have ⟨x, hx, n⟩ : ∃ x ∈ a, ¬ (x.any fun t => t.1 == .zero || t.1 == .calm) = true := Classical.byContradiction fun c => k fun x hx => Classical.byContradiction fun n => c ⟨x, hx, n⟩
        refine .inr fun y hy => ?_
        have := h (x ++ y) (mem_prodC.mpr ⟨x, hx, y, hy, rfl⟩)
        rw [List.any_append, Bool.or_eq_true] at this
        rcases this with t | t
        · exact absurd t n
        · exact t
    · intro h c hc
      obtain ⟨x, hx, y, hy, e⟩ := mem_prodC.mp hc
      rw [e, List.any_append, Bool.or_eq_true]
      rcases h with h | h
      · exact .inl (h x hx)
      · exact .inr (h y hy)
  cases z : forEver (prodC a b) with
  | true =>
    rcases h.mp z with k | k <;> rw [k] <;> simp
  | false =>
    cases z1 : forEver a with
    | true => rw [h.mpr (.inl z1)] at z; cases z
    | false =>
      cases z2 : forEver b with
      | true => rw [h.mpr (.inr z2)] at z; cases z
      | false => rfl
/-! ### the least keeping -/
theorem gap_mix {m n : Mk} (lag len : Option Int) (h1 : okB lag) (h2 : okB len) (hb : m.below n = true) (g : Int) (h : mGap n .owed lag len = some g) : ∃ g', mGap m .owed lag len = some g' ∧ g' ≤ g := by
  cases lag <;> cases len <;> cases m <;> cases n <;> simp [Mk.below, mGap, okB] at hb h h1 h2 ⊢ <;> omega
theorem t_mix {a b : Tm} (lag len : Option Int) (h1 : okB lag) (h2 : okB len) (h : tLe none none a b = true) (h3 : tLe lag len b (.owed, 0) = true) : tLe lag len a (.owed, 0) = true := by
  have key : ∀ t : Tm, tLe lag len t (.owed, 0) = true ↔ (t.1 = .zero ∨ ∃ g, mGap t.1 .owed lag len = some g ∧ g ≤ t.2) := fun t => by
    unfold tLe
    cases mGap t.1 .owed lag len <;> simp
  rw [key] at h3 ⊢
  rw [t0_iff] at h
  rcases h with h | ⟨h, h'⟩
  · exact .inl h
  · rcases h3 with h3 | ⟨g, h3, h4⟩
    · rw [h3] at h
      exact .inl (below_zero _ h)
    · obtain ⟨g', e, e2⟩ := gap_mix lag len h1 h2 h g h3
      exact .inr ⟨g', e, by omega⟩
theorem owedR_eq : owedR = [[(.owed, 0)]] := by decide
/-- safe: each clause has a term that is at most owed -/
theorem safe_iff (lag len : Option Int) (a : List (List Tm)) : csLe lag len a owedR = true ↔ ∀ c ∈ a, ∃ t ∈ c, tLe lag len t (.owed, 0) = true := by
  rw [owedR_eq, csLe_iff]
  simp [cLe_iff]
theorem safe_anti {lag len : Option Int} (h1 : okB lag) (h2 : okB len) {a b : List (List Tm)} (h : rLe a b) (hb : csLe lag len b owedR = true) : csLe lag len a owedR = true := by
  rw [safe_iff] at hb ⊢
  unfold rLe at h
  rw [csLe_iff] at h
  intro c hc
  obtain ⟨y, hy, e⟩ := h c hc
  obtain ⟨t, ht, e2⟩ := hb y hy
  obtain ⟨l, hl, e3⟩ := (cLe_iff ..).mp e t ht
  exact ⟨l, hl, t_mix lag len h1 h2 e3 e2⟩
/-- the least keeping, as it is written down -/
def lRaw (lag len : Option Int) (ms : List Mk) : List (List Tm) := [(.zero, 0)] :: ms.filterMap fun m => (mGap m .owed lag len).map fun g => [(m, g)]
theorem lKeep_go (lag len : Option Int) : ∀ (ms : List Mk) (R X : List (List Tm)), rEq R X → rEq (ms.foldl (lStep lag len) R) (X ++ ms.filterMap fun m => (mGap m .owed lag len).map fun g => [(m, g)])
  | [], R, X, h => by simpa using h
  | m :: ms, R, X, h => by
    rw [List.foldl_cons, List.filterMap_cons]
    cases z : mGap m .owed lag len with
    | none =>
      have e : lStep lag len R m = R := by
        unfold lStep
        rw [z]
      rw [e]
      exact lKeep_go lag len ms R X h
    | some g =>
      have e : lStep lag len R m = normR (R ++ normR [[(m, g)]]) := by
        unfold lStep
        rw [z]
      rw [e]
      have := lKeep_go lag len ms (normR (R ++ normR [[(m, g)]])) (X ++ [[(m, g)]]) ((normR_rEq _).trans (h.app (normR_rEq _)))
      simpa using this
theorem lKeep_eq (lag len : Option Int) (ms : List Mk) : rEq (lKeep lag len ms) (lRaw lag len ms) := lKeep_go lag len ms _ _ (normR_rEq _)
theorem lRaw_safe (lag len : Option Int) (ms : List Mk) : csLe lag len (lRaw lag len ms) owedR = true := by
  rw [safe_iff]
  intro c hc
  rcases List.mem_cons.mp hc with h | h
  · exact ⟨(.zero, 0), by rw [h]; simp, by simp [tLe]⟩
  · obtain ⟨m, hm, e⟩ := List.mem_filterMap.mp h
    cases z : mGap m .owed lag len with
    | none => rw [z] at e; cases e
    | some g =>
      rw [z] at e
      cases e
      refine ⟨(m, g), List.mem_cons_self .., ?_⟩
      unfold tLe
      simp [z]
theorem lKeep_safe {lag len : Option Int} (h1 : okB lag) (h2 : okB len) (ms : List Mk) : csLe lag len (lKeep lag len ms) owedR = true := safe_anti h1 h2 (lKeep_eq lag len ms).1 (lRaw_safe lag len ms)
theorem least_above {lag len : Option Int} (ms : List Mk) {a : List (List Tm)} (hm : ∀ c ∈ a, ∀ t ∈ c, t.1 ∈ ms ∨ t.1 = .zero) (hs : csLe lag len a owedR = true) : rLe a (lKeep lag len ms) := by
  refine r0_trans ?_ (lKeep_eq lag len ms).2
  unfold rLe
  rw [csLe_iff]
  rw [safe_iff] at hs
  intro c hc
  obtain ⟨t, ht, e⟩ := hs c hc
  obtain ⟨m, b⟩ := t
  by_cases hz : m = .zero
  · refine ⟨_, List.mem_cons_self .., (cLe_iff ..).mpr fun u hu => ⟨(m, b), ht, ?_⟩⟩
    rw [t0_iff]
    exact .inl hz
  · rcases hm c hc _ ht with h | h
    · unfold tLe at e
      simp only [beq_iff_eq, hz, Bool.or_eq_true, false_or] at e
      cases z : mGap m .owed lag len with
      | none => simp [z] at e
      | some g =>
        simp only [z, decide_eq_true_eq] at e
        refine ⟨[(m, g)], List.mem_cons_of_mem _ (List.mem_filterMap.mpr ⟨m, h, by rw [z]; rfl⟩), (cLe_iff ..).mpr fun u hu => ⟨(m, b), ht, ?_⟩⟩
        rw [List.mem_singleton.mp hu, t0_iff]
        exact .inr ⟨below_refl _, by show g ≤ b; omega⟩
    · exact absurd h hz
theorem and_below (a b : List (List Tm)) : rLe (prodC a b) a := by
  unfold rLe
  rw [csLe_iff]
  intro c hc
  obtain ⟨x, hx, y, hy, e⟩ := mem_prodC.mp hc
  exact ⟨x, hx, c0_sub fun p hp => by rw [e]; exact List.mem_append_left _ hp⟩
theorem and_below2 (a b : List (List Tm)) : rLe (prodC a b) b := by
  unfold rLe
  rw [csLe_iff]
  intro c hc
  obtain ⟨x, hx, y, hy, e⟩ := mem_prodC.mp hc
  exact ⟨y, hy, c0_sub fun p hp => by rw [e]; exact List.mem_append_right _ hp⟩
theorem or_above (a b : List (List Tm)) : rLe a (a ++ b) ∧ rLe b (a ++ b) := by
  unfold rLe
  rw [csLe_iff, csLe_iff]
  exact ⟨fun c hc => ⟨c, List.mem_append_left _ hc, c0_refl c⟩, fun c hc => ⟨c, List.mem_append_right _ hc, c0_refl c⟩⟩
end Wk

set_option Elab.async false
set_option linter.all false
set_option maxRecDepth 100000
set_option maxHeartbeats 4000000
/-! PL26: what else the law works out. -/
namespace Wk
open PySem DL L2
def nLess (a b : Option Int) : Bool := match a, b with
  | none, _ => true
  | some _, none => false
  | some a, some b => decide (b ≤ a)
abbrev Pr := Option Int × Option Int
def ePr (p : Pr) : D := .tup [eO p.1, eO p.2]
theorem same_eO (n : Nat) (v : Option Int) : SameD (n + 1) (eO v) := by
  cases v with
  | none => exact .non
  | some i => exact .int i
end Wk

set_option Elab.async false
set_option linter.all false
set_option maxRecDepth 100000
set_option maxHeartbeats 4000000
/-! PL27: _law_operators. -/
namespace Wk
open PySem DL L2
section
variable {α : Type} {ρ ρ1 ρ2 : List Sl} {d e : D} {ds : List D} {f g : EM D} {fa ga : EM (List D)} {s t : EM Fl}
theorem v_var (i : Nat) (h : ρ.getD i .no = .fz d) : eVar i ρ = .ok d ρ := by rw [x_var, h]
theorem v_call {fs : EM D} (ha : fa ρ = .ok ds ρ) (h : callRes0 fs ds = EM.ret d) : eCall0 fs fa ρ = .ok d ρ := by rw [x_call, ha, x_rok, h]; rfl
theorem v_cons (h : f ρ = .ok d ρ) (h2 : fa ρ = .ok ds ρ) : aCons f fa ρ = .ok (d :: ds) ρ := by rw [x_acons, h, x_rok, x_bind, h2]; rfl
theorem v_nil : aNil ρ = .ok [] ρ := rfl
theorem v_lst (h : fa ρ = .ok ds ρ) (hl : ds.length ≤ 1000) : oLst fa ρ = .ok ds ρ := by
  rw [x_olst, h, x_rok, x_lim, if_pos (by rw [LIM_eq]; omega)]
  rfl
theorem v_fz (h : fa ρ = .ok ds ρ) (hl : ds.length ≤ 1000) : eFz (oLst fa) ρ = .ok (.lst ds) ρ := by rw [x_efz, v_lst h hl]; rfl
theorem v_ixv (j : Nat) {xs : List D} {k : Int} (h : sqSl (ρ.getD j .no) = some xs) (h2 : atI xs k = some d) : eIxV j (EM.ret (.int k)) ρ = .ok d ρ := by
  rw [x_ixv]
  simp only [h, x_ret, x_rok, h2, x_some]
theorem v_test {b : Bool} (h : f ρ = .ok (.bl b) ρ) : (f.bind toB) ρ = .ok b ρ := by rw [x_bind, h]; rfl
theorem w_asg (i : Nat) (h : f ρ = .ok d ρ) : sAsg i f ρ = .ok .nx (ρ.set i (.fz d)) := by rw [x_asg, h]; rfl
theorem w_asgO (i : Nat) (h : fa ρ = .ok ds ρ) : sAsgO i fa ρ = .ok .nx (ρ.set i (.ow ds)) := by rw [x_asgO, h]; rfl
theorem w_seq (h : s ρ = .ok .nx ρ1) : sSeq s t ρ = t ρ1 := by rw [x_seq, h]
theorem w_ifnot {a b : EM Fl} (h : f ρ = .ok (.bl true) ρ) : sIf (tNot' (f.bind toB)) a sNil ρ = .ok .nx ρ := by
  rw [x_if, x_tnot, v_test h]
  rfl
theorem for_same {i : Nat} {body : EM Fl} (enc : α → D) (st : Sl → List Sl) (hset : ∀ s e, (st s).set i (.fz e) = st (.fz e)) : ∀ (xs : List α) (s : Sl), (∀ x ∈ xs, body (st (.fz (enc x))) = .ok .nx (st (.fz (enc x)))) → ∃ s', forD (.nm i) body (xs.map enc) (st s) = .ok .nx (st s')
  | [], s, _ => ⟨s, rfl⟩
  | x :: xs, s, h => by
    obtain ⟨s', ih⟩ := for_same enc st hset xs (.fz (enc x)) fun y hy => h y (List.mem_cons_of_mem _ hy)
    refine ⟨s', ?_⟩
    rw [List.map_cons]
    conv => lhs; unfold forD
    rw [x_setT1, hset]
    show stepF (body (st (.fz (enc x)))) _ = _
    rw [h x (List.mem_cons_self ..)]
    exact ih
end
theorem same_groups (n N M : Nat) (F : List (List Pt)) (h : GoodF N M F) (hN : N ≤ 100000) (hM : M ≤ 100000) : SameD (n + 4) (.lst (F.map eG)) := by
  refine .lst _ (fun x hx => ?_) (by rw [List.length_map]; exact Nat.le_trans h.len hN)
  obtain ⟨g, hg, e⟩ := List.mem_map.mp hx
  subst e
  refine .tup _ (fun y hy => ?_) (by rw [List.length_map]; exact Nat.le_trans (h.cl g hg) hM)
  obtain ⟨p, hp, e⟩ := List.mem_map.mp hy
  subst e
  refine .tup _ (fun z hz => ?_) (Nat.le_of_ble_eq_true rfl)
  rcases List.mem_cons.mp hz with e | e
  · rw [e]; exact .str _
  · rw [List.mem_singleton.mp e]; exact .int _
theorem pF_good {n m : Nat} {cs : List (List Tm)} (h : GoodR n m cs) : GoodF (n + 1) (m + 1) (pF cs) := by
  refine ⟨?_, fun g hg => ?_⟩
  · unfold pF
    rw [List.length_cons, List.length_map]
    exact Nat.succ_le_succ h.len
  · rcases List.mem_cons.mp hg with e | e
    · rw [e]
      simp
    · obtain ⟨c, hc, e⟩ := List.mem_map.mp e
      rw [← e]
      unfold gOf
      rw [List.length_cons, List.length_map]
      exact Nat.succ_le_succ (h.cl c hc)
theorem pForm_good {n m : Nat} {cs : List (List Tm)} (h : GoodR n m cs) : GoodF (n + 1) (m + 1) (pForm cs) := by
  rw [pForm_eq]
  exact normG_good (pF_good h)
/-! ### the pile forms of joined rules -/
theorem form_and (a b : List (List Tm)) : pForm (normR (prodC a b)) = normG (prodC (pForm a) (pForm b)) := by
  rw [pForm_eq]
  exact normG_canon ((pF_eq (normR_rEq _)).trans ((pF_prod a b).trans ((pForm_fEq a).symm.prod (pForm_fEq b).symm)))
theorem form_or (a b : List (List Tm)) : pForm (normR (a ++ b)) = normG (pForm a ++ pForm b) := by
  rw [pForm_eq]
  exact normG_canon ((pF_eq (normR_rEq _)).trans ((pF_app a b).trans ((pForm_fEq a).symm.app (pForm_fEq b).symm)))
theorem form_sub (k : Int) (hk : 0 ≤ k) (a : List (List Tm)) (ha : ∀ c ∈ a, c ≠ [] ∧ ∀ t ∈ c, 0 ≤ t.2) : pForm (normR (shR k a)) = normG (shF k (pForm a)) := by
  rw [pForm_eq]
  exact normG_canon ((pF_eq (normR_rEq _)).trans ((pF_shift k hk a ha).trans ((pForm_fEq a).symm.shift k)))
theorem keep_norm {a : List (List Tm)} (h : keepR a) : keepR (normR a) := fun c hc t ht => by
  obtain ⟨d, hd, e⟩ := norm_mem hc
  rw [e] at ht
  obtain ⟨u, hu, e2⟩ := List.mem_map.mp (mem_maxs (mem_sTerms.mp ht))
  rw [← e2]
  exact h d hd u hu
theorem keep_app {a b : List (List Tm)} (h : keepR a) (h2 : keepR b) : keepR (a ++ b) := fun c hc t ht => by
  rcases List.mem_append.mp hc with k | k
  · exact h c k t ht
  · exact h2 c k t ht
theorem keep_prod {a b : List (List Tm)} (h : keepR a) (h2 : keepR b) : keepR (prodC a b) := fun c hc t ht => by
  obtain ⟨x, hx, y, hy, e⟩ := mem_prodC.mp hc
  rw [e] at ht
  rcases List.mem_append.mp ht with k | k
  · exact h x hx t k
  · exact h2 y hy t k
theorem keep_shift {a : List (List Tm)} (k : Int) (h : keepR a) : keepR (shR k a) := fun c hc t ht => by
  obtain ⟨x, hx, e⟩ := List.mem_map.mp hc
  rw [← e] at ht
  obtain ⟨u, hu, e2⟩ := List.mem_map.mp ht
  rw [← e2]
  exact h x hx u hu
/-! ### the rows -/
theorem same_bls (n : Nat) (bs : List Bool) (h : bs.length ≤ 100) : SameD (n + 2) (.lst (bs.map .bl)) := .lst _ (fun x hx => by
  obtain ⟨b, _, e⟩ := List.mem_map.mp hx
  rw [← e]
  exact .bl _) (by rw [List.length_map]; omega)
theorem good_shift {n m : Nat} {a : List (List Tm)} (h : GoodR n m a) : ∀ c ∈ a, c ≠ [] ∧ ∀ t ∈ c, 0 ≤ t.2 := fun c hc => ⟨(h.ok c hc).1, fun t ht => ((h.ok c hc).2 t ht).1⟩
end Wk

set_option Elab.async false
set_option linter.all false
set_option maxRecDepth 100000
set_option maxHeartbeats 4000000
/-! PL28: _law_least_pile. -/
namespace Wk
open PySem DL L2
theorem v_make {c : Str} {fs : EM D} {fa : EM (List D)} {ρ : List Sl} {ds : List D} {d : D} (ha : fa ρ = .ok ds ρ) (h : makeRes c fs ds = EM.ret d) : eMake c fs fa ρ = .ok d ρ := by
  unfold eMake
  rw [x_bind, ha, x_rok, h]
  rfl
theorem lKeep_good (lag len : Option Int) (h1 : okB lag) (h2 : okB len) : ∀ (ms : List Mk) (n : Nat) (R : List (List Tm)), GoodR n 1 R → GoodR (n + ms.length) 1 (ms.foldl (lStep lag len) R)
  | [], n, R, h => h
  | m :: ms, n, R, h => by
    rw [List.foldl_cons, List.length_cons]
    have e : GoodR (n + 1) 1 (lStep lag len R m) := by
      unfold lStep
      cases z : mGap m .owed lag len with
      | none => exact ⟨h.ne, h.ok, Nat.le_succ_of_le h.len, h.cl⟩
      | some g =>
        obtain ⟨g0, g1⟩ := gap_range lag len m g h1 h2 z
        have := good_or h (normR_good (good1 m g g0 g1))
        exact normR_good this
    have := lKeep_good lag len h1 h2 ms (n + 1) _ e
    have q : n + 1 + ms.length = n + (ms.length + 1) := by omega
    rw [q] at this
    exact this
theorem lKeep_keep (lag len : Option Int) : ∀ (ms : List Mk) (R : List (List Tm)), keepR R → (∀ m ∈ ms, keep m) → keepR (ms.foldl (lStep lag len) R)
  | [], R, h, _ => h
  | m :: ms, R, h, hk => by
    rw [List.foldl_cons]
    refine lKeep_keep lag len ms _ ?_ fun x hx => hk x (List.mem_cons_of_mem _ hx)
    unfold lStep
    cases z : mGap m .owed lag len with
    | none => exact h
    | some g =>
      refine keep_norm (keep_app h (keep_norm fun c hc t ht => ?_))
      rw [List.mem_singleton.mp hc] at ht
      rw [List.mem_singleton.mp ht]
      exact hk m (List.mem_cons_self ..)
theorem okB_nn {v : Option Int} (h : okB v) : nonneg v := by
  cases v with
  | none => trivial
  | some i => exact h.1
theorem nLess_of {a b : Option Int} (h : oLe b a) : nLess a b = true := by
  cases a <;> cases b <;> simp [oLe, nLess] at h ⊢
  exact h
theorem GoodR.mono {n m n' m' : Nat} {a : List (List Tm)} (h : GoodR n m a) (hn : n ≤ n') (hm : m ≤ m') : GoodR n' m' a := ⟨h.ne, h.ok, Nat.le_trans h.len hn, fun c hc => Nat.le_trans (h.cl c hc) hm⟩
end Wk

set_option Elab.async false
set_option linter.all false
set_option maxRecDepth 100000
set_option maxHeartbeats 4000000
/-! PL29: the law. -/
namespace Wk
open PySem DL L2
theorem w_pick {f g : EM D} {ρ ρ1 : List Sl} {xs : List D} {d : Int} {x : D} (i : Nat) (h1 : f ρ = .ok (.lst xs) ρ) (h2 : g ρ = .ok (.int d) ρ1) (h3 : atI xs d = some x) : sAsg i (e2 gIx f g) ρ = .ok .nx (ρ1.set i (.fz x)) := by
  rw [x_asg, x_e2, h1, x_rok, x_bind, h2, x_rok, x_gix1, h3]
  rfl
theorem w_asg2 {f : EM D} {ρ ρ1 : List Sl} {d : D} (i : Nat) (h : f ρ = .ok d ρ1) : sAsg i f ρ = .ok .nx (ρ1.set i (.fz d)) := by rw [x_asg, h]; rfl
theorem w_asgO2 {fa : EM (List D)} {ρ ρ1 : List Sl} {ds : List D} (i : Nat) (h : fa ρ = .ok ds ρ1) : sAsgO i fa ρ = .ok .nx (ρ1.set i (.ow ds)) := by rw [x_asgO, h]; rfl
theorem v_cons2 {f : EM D} {fa : EM (List D)} {ρ ρ1 ρ2 : List Sl} {d : D} {ds : List D} (h : f ρ = .ok d ρ1) (h2 : fa ρ1 = .ok ds ρ2) : aCons f fa ρ = .ok (d :: ds) ρ2 := by rw [x_acons, h, x_rok, x_bind, h2]; rfl
theorem v_call2 {fs : EM D} {fa : EM (List D)} {ρ ρ1 : List Sl} {ds : List D} {d : D} (ha : fa ρ = .ok ds ρ1) (h : callRes0 fs ds = EM.ret d) : eCall0 fs fa ρ = .ok d ρ1 := by rw [x_call, ha, x_rok, h]; rfl
theorem v_make2 {c : Str} {fs : EM D} {fa : EM (List D)} {ρ ρ1 : List Sl} {ds : List D} {d : D} (ha : fa ρ = .ok ds ρ1) (h : makeRes c fs ds = EM.ret d) : eMake c fs fa ρ = .ok d ρ1 := by
  unfold eMake
  rw [x_bind, ha, x_rok, h]
  rfl
theorem v_lst2 {fa : EM (List D)} {ρ ρ1 : List Sl} {ds : List D} (h : fa ρ = .ok ds ρ1) (hl : ds.length ≤ 1000) : oLst fa ρ = .ok ds ρ1 := by
  rw [x_olst, h, x_rok, x_lim, if_pos (by rw [LIM_eq]; omega)]
  rfl
theorem v_tup {fa : EM (List D)} {ρ : List Sl} {ds : List D} (h : fa ρ = .ok ds ρ) (hl : ds.length ≤ 1000) : eTup fa ρ = .ok (.tup ds) ρ := by
  rw [x_etup, h, x_rok, x_lim, if_pos (by rw [LIM_eq]; omega)]
  rfl
theorem v_tup2 {fa : EM (List D)} {ρ ρ1 : List Sl} {ds : List D} (h : fa ρ = .ok ds ρ1) (hl : ds.length ≤ 1000) : eTup fa ρ = .ok (.tup ds) ρ1 := by
  rw [x_etup, h, x_rok, x_lim, if_pos (by rw [LIM_eq]; omega)]
  rfl
theorem w_ifnot2 {f : EM D} {a : EM Fl} {ρ ρ1 : List Sl} (h : f ρ = .ok (.bl true) ρ1) : sIf (tNot' (f.bind toB)) a sNil ρ = .ok .nx ρ1 := by
  rw [x_if, x_tnot, x_bind, h]
  rfl
theorem v_take {f : EM D} {ρ : List Sl} {xs : List D} (i : Int) (n : Nat) (hi : i = n) (h : f ρ = .ok (.lst xs) ρ) : eTake i f ρ = .ok (.lst (xs.take n)) ρ := by
  subst hi
  unfold eTake
  rw [x_bind, h, x_rok]
  show EM.opt (if (0 : Int) ≤ n then some (D.lst (xs.take (n : Int).toNat)) else none) ρ = _
  rw [if_pos (by omega), Int.toNat_natCast]
  rfl
theorem v_addL {f g : EM D} {ρ ρ1 ρ2 : List Sl} {xs ys : List D} (h1 : f ρ = .ok (.lst xs) ρ1) (h2 : g ρ1 = .ok (.lst ys) ρ2) (hl : xs.length + ys.length ≤ 1000) : e2 gAdd f g ρ = .ok (.lst (xs ++ ys)) ρ2 := by
  rw [x_e2, h1, x_rok, x_bind, h2, x_rok, x_addL, if_pos (by rw [LIM_eq]; omega)]
  rfl
theorem io_go2 {j : Nat} {fs : EM D} {fa : EM (List D)} {ds xs xs0 ys : List D} {d : D} {ρ ρ1 : List Sl} (hj0 : ownL (ρ.getD j .no) = some xs0) (ha : fa ρ = .ok ds ρ1) (hj : ownL (ρ1.getD j .no) = some xs) (h : fs (.io xs :: ds.map .fz) = .ok d (.io ys :: ds.map .fz)) : eCallIO j fs fa ρ = .ok d (ρ1.set j (reL (ρ1.getD j .no) ys)) := by
  unfold eCallIO
  rw [hj0]
  dsimp only
  rw [ha]
  show ioRes j fs ds ρ1 = _
  unfold ioRes
  rw [hj]
  dsimp only
  rw [h]
theorem clauses_ow {fa : EM (List D)} {s : Dr} {r0 : Sl} {r r' : List Sl} (ms : List Mk) (hms : ms ≠ []) (hml : ms.length ≤ 100) (many deep : Int) (m0 : 0 < many) (m9 : many ≤ 900) (h0 : 0 ≤ deep) (h9 : deep ≤ 1000) (ha : fa (r0 :: .ow s.l :: r) = .ok [mD ms, .int many, .int deep] (r0 :: .ow s.l :: r')) : ∃ (cs : List (List Tm)) (s' : Dr), cs ≠ [] ∧ (cs.length : Int) ≤ many ∧ (∀ c ∈ cs, dC ms deep c) ∧
    eCallIO 1 f__law_clauses fa (r0 :: .ow s.l :: r) = .ok (.lst (cs.map eLc)) (r0 :: .ow s'.l :: r') := by
  obtain ⟨cs, s', k1, k2, k3, e⟩ := f_clauses ms hms hml many deep m0 m9 h0 h9 s
  exact ⟨cs, s', k1, k2, k3, io_go2 (j := 1) rfl ha rfl e⟩
theorem f_bound (s : Dr) (L : Int) (h0 : 0 ≤ L) (h1 : L ≤ 49) : ∃ (v : Option Int) (s' : Dr), okB v ∧ f__law_bound (.io s.l :: [D.int L].map .fz) = .ok (eO v) (.io s'.l :: [D.int L].map .fz) := by
  obtain ⟨d, s1, e, k1, k2⟩ := draw_io (fa := aCons (EM.ret (.int 3)) aNil) (s := s) (r := [.fz (.int L)]) (L := 3) rfl (by omega) (by omega)
  obtain ⟨d2, s2, e2', j1, j2⟩ := draw_io (fa := aCons (e2 gAdd (eVar 1) (EM.ret (.int 1))) aNil) (s := s1) (r := [.fz (.int L)]) (L := L + 1) (by simp) (by omega) (by omega)
  by_cases z : d = 0
  · refine ⟨none, s1, trivial, ofIO (n := 2) (N := 2) (b := b__law_bound) (by rfl) ?_⟩
    unfold b__law_bound
    show ansIO (sSeq _ _ [.io s.l, .fz (.int L)]) = _
    have h : sIf (t2 gEq (eCallIO 0 f__law_draw (aCons (EM.ret (.int 3)) aNil)) (EM.ret (.int 0))) (sRet (EM.ret .non)) sNil [.io s.l, .fz (.int L)] = .ok (.rt .non) [.io s1.l, .fz (.int L)] := by
      rw [x_if, x_t2, e, x_rok, z]
      simp
    rw [x_seq, h]
    rfl
  · refine ⟨some d2, s2, ⟨j1, by omega⟩, ofIO (n := 2) (N := 2) (b := b__law_bound) (by rfl) ?_⟩
    unfold b__law_bound
    show ansIO (sSeq _ _ [.io s.l, .fz (.int L)]) = _
    have h : sIf (t2 gEq (eCallIO 0 f__law_draw (aCons (EM.ret (.int 3)) aNil)) (EM.ret (.int 0))) (sRet (EM.ret .non)) sNil [.io s.l, .fz (.int L)] = .ok .nx [.io s1.l, .fz (.int L)] := by
      rw [x_if, x_t2, e, x_rok]
      simp [z]
    rw [w_seq h, x_sret, e2']
    rfl
theorem bound_ow {s : Dr} {r0 : Sl} {r : List Sl} {fa : EM (List D)} (L : Int) (h0 : 0 ≤ L) (h1 : L ≤ 49) (ha : fa (r0 :: .ow s.l :: r) = .ok [.int L] (r0 :: .ow s.l :: r)) : ∃ (v : Option Int) (s' : Dr), okB v ∧ eCallIO 1 f__law_bound fa (r0 :: .ow s.l :: r) = .ok (eO v) (r0 :: .ow s'.l :: r) := by
  obtain ⟨v, s', k, e⟩ := f_bound s L h0 h1
  exact ⟨v, s', k, io_go2 (j := 1) rfl ha rfl e⟩
theorem pick_mem {α : Type} (enc : α → D) (xs : List α) (d : Int) (h0 : 0 ≤ d) (h1 : d < xs.length) : ∃ x ∈ xs, atI (xs.map enc) d = some (enc x) := by
  have hi : d.toNat < xs.length := by omega
  refine ⟨xs[d.toNat], List.getElem_mem .., ?_⟩
  unfold atI ixN
  rw [List.length_map, if_pos h0, if_pos h1]
  simp [hi]
def five : List Mk := [.zero, .calm, .owed, .done, .end_]
theorem five_keep : ∀ m ∈ five, keep m := fun m h => by
  simp only [five, List.mem_cons, List.not_mem_nil, or_false] at h
  rcases h with e | e | e | e | e <;> subst e <;> exact ⟨by decide, by decide⟩
theorem drawn_good {ms : List Mk} {deep : Int} {cs : List (List Tm)} (hd : deep ≤ 99) (h1 : cs ≠ []) (h2 : (cs.length : Int) ≤ 2) (h3 : ∀ c ∈ cs, dC ms deep c) : GoodR 2 3 cs :=
  ⟨h1, fun c hc => ⟨(h3 c hc).1, fun t ht => ⟨((h3 c hc).2.2 t ht).2.1, Int.le_trans ((h3 c hc).2.2 t ht).2.2 hd⟩⟩, by omega, fun c hc => (h3 c hc).2.1⟩
theorem drawn_keep {ms : List Mk} {deep : Int} {cs : List (List Tm)} (hm : ∀ m ∈ ms, keep m) (h3 : ∀ c ∈ cs, dC ms deep c) : keepR cs := fun c hc t ht => hm _ ((h3 c hc).2.2 t ht).1
theorem GoodR.take {n m : Nat} {a : List (List Tm)} (h : GoodR n m a) : GoodR 1 m (a.take 1) := ⟨by
  cases a with
  | nil => exact absurd rfl h.ne
  | cons x a => simp, fun c hc => h.ok c (List.mem_of_mem_take hc), by rw [List.length_take]; omega, fun c hc => h.cl c (List.mem_of_mem_take hc)⟩
theorem keep_take {a : List (List Tm)} (n : Nat) (h : keepR a) : keepR (a.take n) := fun c hc => h c (List.mem_of_mem_take hc)
abbrev eM (m : Mk) : D := .str m.s

def s0 (ns : List Int) : Dr := ⟨ns, 0, 0, 0, 0, 0⟩
end Wk

set_option Elab.async false
set_option linter.all false
set_option maxRecDepth 100000
set_option maxHeartbeats 4000000
/-! QM1: the frontier (plain). -/
namespace Wk
open PySem DL L2
def bLe (a b : Option Int) : Bool := match a, b with
  | _, none => true
  | some x, some y => decide (x ≤ y)
  | none, some _ => false
theorem bLe_iff (a b : Option Int) : bLe a b = true ↔ oLe a b := by
  cases a <;> cases b <;> simp [bLe, oLe]
theorem bLe_ff (a b : Option Int) : bLe a b = false ↔ ¬ oLe a b := by
  rw [← bLe_iff, Bool.not_eq_true]
theorem oLe_tot (a b : Option Int) : oLe a b ∨ oLe b a := by
  cases a <;> cases b <;> simp [oLe] <;> omega
theorem oLe_of_not {a b : Option Int} (h : ¬ oLe a b) : oLe b a := (oLe_tot a b).resolve_left h
theorem not_trans {a b c : Option Int} (h : ¬ oLe a b) (h2 : oLe c b) : ¬ oLe a c := fun q => h (oLe_trans q h2)
/-! ### how long a clause is -/
def stepL (lag : Option Int) (b : Int) (t : Tm) : Int := if t.1 = .done ∧ b < t.2 then t.2 else match lag with
  | some l => if t.1 = .end_ ∧ b < t.2 - l then t.2 - l else b
  | none => b
def cB (lag : Option Int) (c : List Tm) : Int := c.foldl (stepL lag) (-1)
def bnd (c : List Tm) : Bool := c.all fun t => t.1 == .done || t.1 == .end_
def cLen (lag : Option Int) (c : List Tm) : Option Int := if bnd c = true then some (cB lag c) else none
def rStep (lag : Option Int) (acc : Option Int) (c : List Tm) : Option Int := if bLe (cLen lag c) acc = true then cLen lag c else acc
def rLen (lag : Option Int) (cs : List (List Tm)) : Option Int := cs.foldl (rStep lag) none
def lStepR (lag : Option Int) (acc : Option Int) (c : List Tm) : Option Int := if bnd c = true ∧ (acc = none ∨ ∃ y, acc = some y ∧ cB lag c < y) then some (cB lag c) else acc
def lLen (lag : Option Int) (cs : List (List Tm)) : Option Int := cs.foldl (lStepR lag) none
/-- t reaches x at lag -/
def rea (lag : Option Int) (x : Int) (t : Tm) : Prop := (t.1 = .done ∧ x ≤ t.2) ∨ (t.1 = .end_ ∧ ∃ l, lag = some l ∧ x ≤ t.2 - l)
theorem stepL_iff (lag : Option Int) (x b : Int) (t : Tm) : x ≤ stepL lag b t ↔ x ≤ b ∨ rea lag x t := by
  obtain ⟨m, i⟩ := t
  unfold stepL rea
  cases lag with
  | none =>
    by_cases h : m = .done
    · subst h
      simp only [true_and]
      split <;> simp <;> omega
    · simp [h]
  | some l =>
    by_cases h : m = .done
    · subst h
      simp only [true_and]
      split
      · simp; omega
      · simp; omega
    · by_cases h2 : m = .end_
      · subst h2
        simp
        split <;> omega
      · simp [h, h2]
theorem cB_go (lag : Option Int) (x : Int) : ∀ (c : List Tm) (b : Int), x ≤ c.foldl (stepL lag) b ↔ x ≤ b ∨ ∃ t ∈ c, rea lag x t
  | [], b => by simp
  | t :: c, b => by
    rw [List.foldl_cons, cB_go lag x c, stepL_iff, or_assoc]
    simp
theorem cB_iff (lag : Option Int) (x : Int) (h : 0 ≤ x) (c : List Tm) : x ≤ cB lag c ↔ ∃ t ∈ c, rea lag x t := by
  unfold cB
  rw [cB_go]
  constructor
  · rintro (h1 | h1)
    · omega
    · exact h1
  · exact .inr
theorem cB_ge (lag : Option Int) (c : List Tm) : -1 ≤ cB lag c := (cB_go lag (-1) c (-1)).mpr (.inl (Int.le_refl _))
theorem rStep_iff (lag acc y : Option Int) (c : List Tm) : oLe y (rStep lag acc c) ↔ oLe y acc ∧ oLe y (cLen lag c) := by
  unfold rStep
  split
  · rename_i h
    exact ⟨fun q => ⟨oLe_trans q ((bLe_iff ..).mp h), q⟩, fun q => q.2⟩
  · rename_i h
    have h := oLe_of_not fun q => h ((bLe_iff ..).mpr q)
    exact ⟨fun q => ⟨q, oLe_trans q h⟩, fun q => q.1⟩
theorem rLen_go (lag y : Option Int) : ∀ (cs : List (List Tm)) (acc : Option Int), oLe y (cs.foldl (rStep lag) acc) ↔ oLe y acc ∧ ∀ c ∈ cs, oLe y (cLen lag c)
  | [], acc => by simp
  | c :: cs, acc => by
    rw [List.foldl_cons, rLen_go lag y cs, rStep_iff, and_assoc]
    simp
theorem rLen_iff (lag y : Option Int) (cs : List (List Tm)) : oLe y (rLen lag cs) ↔ ∀ c ∈ cs, oLe y (cLen lag c) := by
  unfold rLen
  rw [rLen_go]
  simp [oLe]
theorem lStepR_iff (lag acc y : Option Int) (c : List Tm) : oLe y (lStepR lag acc c) ↔ oLe y acc ∧ oLe y (cLen lag c) := by
  unfold lStepR cLen
  by_cases hb : bnd c = true
  · rw [if_pos hb]
    cases acc with
    | none =>
      rw [if_pos ⟨hb, .inl rfl⟩]
      simp [oLe]
    | some z =>
      by_cases hz : cB lag c < z
      · rw [if_pos ⟨hb, .inr ⟨z, rfl, hz⟩⟩]
        cases y <;> simp [oLe] <;> omega
      · rw [if_neg (by rintro ⟨_, h | ⟨y, e, h⟩⟩; exact (nomatch h); cases e; exact hz h)]
        cases y <;> simp [oLe] <;> omega
  · rw [if_neg hb, if_neg (fun q => hb q.1)]
    simp [oLe]
theorem lLen_go (lag y : Option Int) : ∀ (cs : List (List Tm)) (acc : Option Int), oLe y (cs.foldl (lStepR lag) acc) ↔ oLe y acc ∧ ∀ c ∈ cs, oLe y (cLen lag c)
  | [], acc => by simp
  | c :: cs, acc => by
    rw [List.foldl_cons, lLen_go lag y cs, lStepR_iff, and_assoc]
    simp
theorem lLen_eq (lag : Option Int) (cs : List (List Tm)) : lLen lag cs = rLen lag cs := by
  have h : ∀ y, oLe y (lLen lag cs) ↔ oLe y (rLen lag cs) := fun y => by
    rw [rLen_iff]
    unfold lLen
    rw [lLen_go]
    simp [oLe]
  exact oLe_anti ((h _).mp (oLe_refl _)) ((h _).mpr (oLe_refl _))
theorem rLen_ge (lag : Option Int) (cs : List (List Tm)) : oLe (some (-1)) (rLen lag cs) := (rLen_iff ..).mpr fun c _ => by
  unfold cLen
  split
  · exact cB_ge lag c
  · trivial
/-! ### safe, told by the length -/
theorem safe_clause (lag len : Option Int) (hl : okB len) (c : List Tm) (hk : ∀ t ∈ c, keep t.1 ∧ 0 ≤ t.2) : (∃ t ∈ c, tLe lag len t (.owed, 0) = true) ↔ oLe len (cLen lag c) := by
  unfold cLen
  by_cases hb : bnd c = true
  · rw [if_pos hb]
    have hb2 : ∀ t ∈ c, t.1 = .done ∨ t.1 = .end_ := fun t ht => by
      have := List.all_eq_true.mp hb t ht
      simpa using this
    cases len with
    | none =>
      constructor
      · rintro ⟨t, ht, h⟩
        obtain ⟨m, i⟩ := t
        rcases hb2 _ ht with e | e <;> · dsimp only at e; subst e; cases lag <;> simp [tLe, mGap, Mk.below] at h
      · intro h; exact h.elim
    | some x =>
      show _ ↔ x ≤ cB lag c
      rw [cB_iff lag x hl.1]
      refine exists_congr fun t => and_congr_right fun ht => ?_
      obtain ⟨m, i⟩ := t
      unfold rea
      rcases hb2 _ ht with e | e
      · dsimp only at e; subst e
        simp [tLe, mGap, Mk.below]
      · dsimp only at e; subst e
        cases lag with
        | none => simp [tLe, mGap, Mk.below]
        | some l =>
          simp [tLe, mGap, Mk.below]
          omega
  · rw [if_neg hb]
    refine ⟨fun _ => trivial, fun _ => ?_⟩
    have : ∃ t ∈ c, ¬ (t.1 = .done ∨ t.1 = .end_) := by
      refine Classical.byContradiction fun q => hb ?_
      refine List.all_eq_true.mpr fun t ht => ?_
      have : t.1 = .done ∨ t.1 = .end_ := Classical.byContradiction fun z => q ⟨t, ht, z⟩
      simpa using this
    obtain ⟨t, ht, h⟩ := this
    refine ⟨t, ht, ?_⟩
    obtain ⟨m, i⟩ := t
    obtain ⟨hk1, hk2⟩ := hk _ ht
    dsimp only at h hk2 hk1
    unfold keep at hk1
    cases m <;> simp at h hk1 <;> simp [tLe, mGap, Mk.below] <;> omega
theorem safe_len {lag len : Option Int} (hl : okB len) {a : List (List Tm)} (hk : keepR a) (h0 : ∀ c ∈ a, ∀ t ∈ c, 0 ≤ t.2) : csLe lag len a owedR = true ↔ oLe len (rLen lag a) := by
  rw [safe_iff, rLen_iff]
  exact forall_congr' fun c => forall_congr' fun hc => safe_clause lag len hl c fun t ht => ⟨hk c hc t ht, h0 c hc t ht⟩
/-! ### at most 49 -/
def cap : Option Int → Option Int
  | none => none
  | some x => some (if 49 < x then 49 else x)
theorem cap_iff (y x : Option Int) (hy : okB y) : oLe y (cap x) ↔ oLe y x := by
  cases x <;> cases y <;> simp [cap, oLe, okB] at hy ⊢
  split <;> omega
theorem cap_eq {x y : Option Int} (h : ∀ z, okB z → (oLe z x ↔ oLe z y)) (hx : oLe (some (-1)) x) (hy : oLe (some (-1)) y) : cap x = cap y := by
  cases x with
  | none =>
    have := (h none trivial).mp trivial
    cases y with
    | none => rfl
    | some y => exact this.elim
  | some x =>
    cases y with
    | none => exact ((h none trivial).mpr trivial).elim
    | some y =>
      have hx : -1 ≤ x := hx
      have hy : -1 ≤ y := hy
      have key : ∀ z, 0 ≤ z → z ≤ 49 → (z ≤ x ↔ z ≤ y) := fun z h1 h2 => h (some z) ⟨h1, h2⟩
      show some (if 49 < x then (49 : Int) else x) = some (if 49 < y then (49 : Int) else y)
      congr 1
      have k49 := key 49 (by omega) (by omega)
      by_cases a : 49 < x
      · rw [if_pos a]
        by_cases b : 49 < y
        · rw [if_pos b]
        · rw [if_neg b]; omega
      · rw [if_neg a]
        by_cases b : 49 < y
        · rw [if_pos b]; omega
        · rw [if_neg b]
          by_cases p : 0 ≤ x
          · have k1 := key x p (by omega)
            by_cases q : 0 ≤ y
            · have k2 := key y q (by omega)
              omega
            · omega
          · by_cases q : 0 ≤ y
            · have k2 := key y q (by omega)
              omega
            · omega
/-- the length told at a lag -/
def fL (cs : List (List Tm)) (lag : Option Int) : Option Int := cap (rLen lag cs)
theorem fL_iff {lag len : Option Int} (hl : okB len) {a : List (List Tm)} (hk : keepR a) (h0 : ∀ c ∈ a, ∀ t ∈ c, 0 ≤ t.2) : oLe len (fL a lag) ↔ csLe lag len a owedR = true := by
  rw [safe_len hl hk h0]
  exact cap_iff _ _ hl
theorem fL_same {lag : Option Int} (h1 : okB lag) {a b : List (List Tm)} (hab : rEq a b) (ka : keepR a) (kb : keepR b) (a0 : ∀ c ∈ a, ∀ t ∈ c, 0 ≤ t.2) (b0 : ∀ c ∈ b, ∀ t ∈ c, 0 ≤ t.2) : fL a lag = fL b lag := by
  refine cap_eq (fun z hz => ?_) (rLen_ge ..) (rLen_ge ..)
  rw [← safe_len hz ka a0, ← safe_len hz kb b0]
  exact ⟨safe_anti h1 hz hab.2, safe_anti h1 hz hab.1⟩
theorem rea_anti {l m : Option Int} {x : Int} {t : Tm} (h : oLe l m) (h2 : rea m x t) : rea l x t := by
  rcases h2 with h2 | ⟨h2, k, e, h3⟩
  · exact .inl h2
  · subst e
    cases l with
    | none => exact h.elim
    | some l => exact .inr ⟨h2, l, rfl, by have : l ≤ k := h; omega⟩
theorem fL_anti {a : List (List Tm)} {l m : Option Int} (h : oLe l m) (hl : okB l) (hm : okB m) (hk : keepR a) (h0 : ∀ c ∈ a, ∀ t ∈ c, 0 ≤ t.2) : oLe (fL a m) (fL a l) := by
  have key : oLe (rLen m a) (rLen l a) := (rLen_iff ..).mpr fun c hc => by
    have h1 := (rLen_iff m (rLen m a) a).mp (oLe_refl _) c hc
    refine oLe_trans h1 ?_
    unfold cLen
    split
    · show cB m c ≤ cB l c
      unfold cB
      rw [cB_go]
      rcases (cB_go m (cB m c) c (-1)).mp (Int.le_refl _) with q | ⟨t, ht, q⟩
      · exact .inl q
      · exact .inr ⟨t, ht, rea_anti h q⟩
    · trivial
  unfold fL
  revert key
  cases rLen m a <;> cases rLen l a <;> simp [oLe, cap]
  split <;> split <;> omega
/-! ### rows -/
def rowsG (f : Option Int → Option Int) : List (Option Int) → Option Int → List (Option Int × Option Int)
  | [], _ => []
  | l :: ls, r => if bLe (f l) r = true then rowsG f ls r else (l, f l) :: rowsG f ls (f l)
theorem rows_mem {f : Option Int → Option Int} : ∀ {ls : List (Option Int)} {r : Option Int} {p : Option Int × Option Int}, p ∈ rowsG f ls r → p.1 ∈ ls ∧ p.2 = f p.1 ∧ ¬ oLe p.2 r
  | [], r, p, h => by cases h
  | l :: ls, r, p, h => by
    unfold rowsG at h
    split at h
    · obtain ⟨h1, h2, h3⟩ := rows_mem h
      exact ⟨List.mem_cons_of_mem _ h1, h2, h3⟩
    · rename_i q
      have q := fun z => q ((bLe_iff ..).mpr z)
      rcases List.mem_cons.mp h with h | h
      · subst h
        exact ⟨List.mem_cons_self .., rfl, q⟩
      · obtain ⟨h1, h2, h3⟩ := rows_mem h
        exact ⟨List.mem_cons_of_mem _ h1, h2, fun z => h3 (oLe_trans z (oLe_of_not q))⟩
def Desc (ls : List (Option Int)) : Prop := ls.Pairwise fun a b => ¬ oLe a b
theorem rows_order {f : Option Int → Option Int} : ∀ {ls : List (Option Int)} {r : Option Int}, Desc ls → (rowsG f ls r).Pairwise fun a b => ¬ oLe a.1 b.1 ∧ ¬ oLe b.2 a.2
  | [], r, _ => .nil
  | l :: ls, r, h => by
    obtain ⟨h1, h2⟩ := List.pairwise_cons.mp h
    unfold rowsG
    split
    · exact rows_order h2
    · refine List.pairwise_cons.mpr ⟨fun p hp => ?_, rows_order h2⟩
      obtain ⟨k1, k2, k3⟩ := rows_mem hp
      exact ⟨h1 _ k1, k3⟩
theorem rows_next {f : Option Int → Option Int} : ∀ {ls : List (Option Int)} {r : Option Int}, Desc ls → ∀ p ∈ rowsG f ls r, ∀ q ∈ ls, ¬ oLe q p.1 → ¬ oLe p.2 (f q)
  | [], r, _ => fun p hp => by cases hp
  | l :: ls, r, h => by
    obtain ⟨h1, h2⟩ := List.pairwise_cons.mp h
    intro p hp q hq hn
    unfold rowsG at hp
    split at hp
    · rename_i z
      rcases List.mem_cons.mp hq with e | hq
      · subst e
        exact not_trans (rows_mem hp).2.2 ((bLe_iff ..).mp z)
      · exact rows_next h2 p hp q hq hn
    · rcases List.mem_cons.mp hp with e | hp
      · subst e
        rcases List.mem_cons.mp hq with e | hq
        · subst e
          exact absurd (oLe_refl _) hn
        · exact absurd (oLe_of_not (h1 q hq)) hn
      · rcases List.mem_cons.mp hq with e | hq
        · subst e
          exact (rows_mem hp).2.2
        · exact rows_next h2 p hp q hq hn
theorem rows_cover {f : Option Int → Option Int} : ∀ {ls : List (Option Int)} {r : Option Int}, Desc ls → ∀ q ∈ ls, oLe (f q) r ∨ ∃ p ∈ rowsG f ls r, oLe q p.1 ∧ oLe (f q) p.2
  | [], r, _ => fun p hp => by cases hp
  | l :: ls, r, h => by
    obtain ⟨h1, h2⟩ := List.pairwise_cons.mp h
    intro q hq
    unfold rowsG
    split
    · rename_i z
      rcases List.mem_cons.mp hq with e | hq
      · subst e
        exact .inl ((bLe_iff ..).mp z)
      · exact rows_cover h2 q hq
    · rename_i z
      rcases List.mem_cons.mp hq with e | hq
      · subst e
        exact .inr ⟨_, List.mem_cons_self .., oLe_refl _, oLe_refl _⟩
      · rcases rows_cover (f := f) (r := f l) h2 q hq with k | ⟨p, hp, k⟩
        · exact .inr ⟨_, List.mem_cons_self .., oLe_of_not (h1 q hq), k⟩
        · exact .inr ⟨p, List.mem_cons_of_mem _ hp, k⟩
/-- None, 49, .., 0 -/
def lags : List (Option Int) := none :: (List.range 50).map fun (k : Nat) => some (49 + (k : Int) * (-1))
theorem lags_desc : Desc lags := by
  unfold Desc lags
  refine List.pairwise_cons.mpr ⟨fun b hb => ?_, ?_⟩
  · obtain ⟨k, _, e⟩ := List.mem_map.mp hb
    subst e
    exact id
  · rw [List.pairwise_map]
    refine List.Pairwise.imp (R := fun a b => a < b) (fun {a b} h => ?_) List.pairwise_lt_range
    show ¬ (49 + (a : Int) * (-1) ≤ 49 + (b : Int) * (-1))
    omega
theorem mem_lags (v : Option Int) : v ∈ lags ↔ okB v := by
  unfold lags
  cases v with
  | none => simp [okB]
  | some x =>
    simp only [List.mem_cons, List.mem_map, List.mem_range]
    constructor
    · rintro (h | ⟨k, h1, h2⟩)
      · cases h
      · injection h2 with h2
        show 0 ≤ x ∧ x ≤ 49
        omega
    · rintro ⟨h1, h2⟩
      exact .inr ⟨(49 - x).toNat, by omega, by congr 1; omega⟩
def rows (cs : List (List Tm)) : List (Option Int × Option Int) := rowsG (fL cs) lags (some (-1))
theorem rows_congr {f g : Option Int → Option Int} : ∀ {ls : List (Option Int)} {r : Option Int}, (∀ l ∈ ls, f l = g l) → rowsG f ls r = rowsG g ls r
  | [], r, _ => rfl
  | l :: ls, r, h => by
    unfold rowsG
    rw [h l (List.mem_cons_self ..), rows_congr fun x hx => h x (List.mem_cons_of_mem _ hx), rows_congr fun x hx => h x (List.mem_cons_of_mem _ hx)]
structure Kp (cs : List (List Tm)) : Prop where
  k : keepR cs
  ne : ∀ c ∈ cs, c ≠ []
  nn : ∀ c ∈ cs, ∀ t ∈ c, 0 ≤ t.2
theorem rows_same {a b : List (List Tm)} (hab : rEq a b) (ka : Kp a) (kb : Kp b) : rows a = rows b := rows_congr fun l hl => fL_same ((mem_lags l).mp hl) hab ka.k kb.k ka.nn kb.nn
theorem cap_ok {x : Option Int} (h : ¬ oLe (cap x) (some (-1))) : okB (cap x) := by
  cases x with
  | none => trivial
  | some x =>
    unfold cap at h ⊢
    have h : ¬ ((if 49 < x then (49 : Int) else x) ≤ -1) := h
    show 0 ≤ (if 49 < x then (49 : Int) else x) ∧ (if 49 < x then (49 : Int) else x) ≤ 49
    split at h <;> rename_i z
    · rw [if_pos z]; omega
    · rw [if_neg z]; omega
theorem rows_ok {cs : List (List Tm)} {p : Option Int × Option Int} (h : p ∈ rows cs) : okB p.1 ∧ okB p.2 := by
  obtain ⟨h1, h2, h3⟩ := rows_mem h
  refine ⟨(mem_lags _).mp h1, ?_⟩
  rw [h2] at h3 ⊢
  exact cap_ok h3
theorem rows_len (cs : List (List Tm)) : (rows cs).length ≤ 51 := by
  have : ∀ (f : Option Int → Option Int) (ls : List (Option Int)) (r : Option Int), (rowsG f ls r).length ≤ ls.length := by
    intro f ls
    induction ls with
    | nil => intro r; exact Nat.le_refl _
    | cons l ls ih =>
      intro r
      unfold rowsG
      split
      · exact Nat.le_succ_of_le (ih r)
      · exact Nat.succ_le_succ (ih _)
  exact Nat.le_trans (this _ _ _) (by decide)
/-! ### what the law asks of the rows -/
def nextB (x : Int) : Option Int := if x < 49 then some (x + 1) else none
theorem next_ok {x : Int} (h : okB (some x)) : okB (nextB x) := by
  unfold nextB
  obtain ⟨h1, h2⟩ := h
  split
  · exact ⟨by omega, by omega⟩
  · trivial
theorem next_gt (x : Int) : ¬ oLe (nextB x) (some x) := by
  unfold nextB
  split
  · show ¬ (x + 1 ≤ x)
    omega
  · exact id
theorem next_least {x : Int} {y : Option Int} (hx : x ≤ 49) (hy : okB y) (h : ¬ oLe y (some x)) : oLe (nextB x) y := by
  unfold nextB
  cases y with
  | none => trivial
  | some y =>
    have h : ¬ y ≤ x := h
    obtain ⟨h1, h2⟩ := hy
    rw [if_pos (by omega)]
    show x + 1 ≤ y
    omega
section
variable {cs : List (List Tm)} (K : Kp cs) {p q : Option Int × Option Int}
include K
theorem row_safe (h : p ∈ rows cs) : csLe p.1 p.2 cs owedR = true := by
  have ok := rows_ok h
  rw [← fL_iff ok.2 K.k K.nn, ← (rows_mem h).2.1]
  exact oLe_refl _
theorem row_lag (h : p ∈ rows cs) {x : Int} (e : p.1 = some x) : csLe (nextB x) p.2 cs owedR = false := by
  have ok := rows_ok h
  have okx : okB (some x) := e ▸ ok.1
  rw [← Bool.not_eq_true, ← fL_iff ok.2 K.k K.nn]
  exact rows_next lags_desc p h (nextB x) ((mem_lags _).mpr (next_ok okx)) (by rw [e]; exact next_gt x)
theorem row_length (h : p ∈ rows cs) {x : Int} (e : p.2 = some x) : csLe p.1 (nextB x) cs owedR = false := by
  have ok := rows_ok h
  have okx : okB (some x) := e ▸ ok.2
  rw [← Bool.not_eq_true, ← fL_iff (next_ok okx) K.k K.nn, ← (rows_mem h).2.1, e]
  exact next_gt x
theorem row_apart {k j : Nat} {p q : Option Int × Option Int} (h1 : (rows cs)[k]? = some p) (h2 : (rows cs)[j]? = some q) : (bLe p.1 q.1 && bLe p.2 q.2) = decide (k = j) := by
  have hp := rows_order (f := fL cs) (r := some (-1)) lags_desc
  have hp : (rows cs).Pairwise fun a b => ¬ oLe a.1 b.1 ∧ ¬ oLe b.2 a.2 := hp
  rw [List.pairwise_iff_getElem] at hp
  obtain ⟨hk, e1⟩ := List.getElem?_eq_some_iff.mp h1
  obtain ⟨hj, e2⟩ := List.getElem?_eq_some_iff.mp h2
  rcases Nat.lt_trichotomy k j with z | z | z
  · have := (hp k j hk hj z).1
    rw [e1, e2] at this
    rw [(bLe_ff _ _).mpr this, Bool.false_and, decide_eq_false (by omega)]
  · subst z
    rw [e1] at e2
    subst e2
    rw [(bLe_iff _ _).mpr (oLe_refl _), (bLe_iff _ _).mpr (oLe_refl _)]
    simp
  · have := (hp j k hj hk z).2
    rw [e1, e2] at this
    rw [(bLe_ff _ _).mpr this, Bool.and_false, decide_eq_false (by omega)]
theorem rows_below {late far : Option Int} (h1 : okB late) (h2 : okB far) : ((rows cs).any fun p => bLe late p.1 && bLe far p.2) = csLe late far cs owedR := by
  rw [Bool.eq_iff_iff, List.any_eq_true]
  constructor
  · rintro ⟨p, hp, h⟩
    obtain ⟨k1, k2⟩ := Bool.and_eq_true_iff.mp h
    have ok := rows_ok hp
    rw [← fL_iff h2 K.k K.nn]
    refine oLe_trans ((bLe_iff ..).mp k2) ?_
    rw [(rows_mem hp).2.1]
    exact fL_anti ((bLe_iff ..).mp k1) h1 ok.1 K.k K.nn
  · intro h
    rw [← fL_iff h2 K.k K.nn] at h
    rcases rows_cover (f := fL cs) (r := some (-1)) lags_desc late ((mem_lags _).mpr h1) with k | ⟨p, hp, k1, k2⟩
    · have := oLe_trans h k
      cases far with
      | none => exact this.elim
      | some x =>
        have : x ≤ -1 := this
        have := h2.1
        omega
    · exact ⟨p, hp, by rw [(bLe_iff ..).mpr k1, (bLe_iff ..).mpr (oLe_trans h k2)]; rfl⟩
theorem rows_ne : rows cs ≠ [] := by
  have h1 : okB (some 0) := ⟨by omega, by omega⟩
  have h0 : oLe (some 0) (fL cs (some 0)) := by
    rw [fL_iff h1 K.k K.nn, safe_len h1 K.k K.nn, rLen_iff]
    intro c hc
    unfold cLen
    split
    · rename_i hb
      show 0 ≤ cB (some 0) c
      rw [cB_iff _ _ (by omega)]
      cases c with
      | nil => exact absurd rfl (K.ne _ hc)
      | cons t c =>
        refine ⟨t, List.mem_cons_self .., ?_⟩
        have n0 := K.nn _ hc t (List.mem_cons_self ..)
        have := List.all_eq_true.mp hb t (List.mem_cons_self ..)
        have : t.1 = .done ∨ t.1 = .end_ := by simpa using this
        rcases this with e | e
        · exact .inl ⟨e, n0⟩
        · exact .inr ⟨e, 0, rfl, by omega⟩
    · trivial
  intro e
  rcases rows_cover (f := fL cs) (r := some (-1)) lags_desc (some 0) ((mem_lags _).mpr h1) with k | ⟨p, hp, _⟩
  · have : (0 : Int) ≤ -1 := oLe_trans h0 k
    omega
  · have hp : p ∈ rows cs := hp
    rw [e] at hp
    cases hp
end
end Wk

set_option Elab.async false
set_option linter.all false
set_option maxRecDepth 100000
set_option maxHeartbeats 4000000
/-! QM2: bounds, worlds, the law's own comparison, computed. -/
namespace Wk
open PySem DL L2
theorem for_allG {α : Type} {i : Nat} {body : EM Fl} {d : D} (enc : α → D) (p : α → Bool) (I : List Sl → Prop) : ∀ (xs : List α) (ρ : List Sl), I ρ → (∀ x ∈ xs, ∀ ρ, I ρ → ∃ ρ', I ρ' ∧ body (ρ.set i (.fz (enc x))) = if p x = true then .ok .nx ρ' else .ok (.rt d) ρ') →
    ∃ ρ', I ρ' ∧ forD (.nm i) body (xs.map enc) ρ = if xs.all p = true then .ok .nx ρ' else .ok (.rt d) ρ'
  | [], ρ, hI, _ => ⟨ρ, hI, rfl⟩
  | x :: xs, ρ, hI, h => by
    obtain ⟨ρ1, h1, e1⟩ := h x (List.mem_cons_self ..) ρ hI
    have e0 : forD (.nm i) body ((x :: xs).map enc) ρ = stepF (body (ρ.set i (.fz (enc x)))) (forD (.nm i) body (xs.map enc)) := rfl
    rw [e0, e1, List.all_cons]
    cases z : p x with
    | true =>
      obtain ⟨ρ2, h2, e2⟩ := for_allG enc p I xs ρ1 h1 fun y hy => h y (List.mem_cons_of_mem _ hy)
      exact ⟨ρ2, h2, by rw [Bool.true_and]; exact e2⟩
    | false => exact ⟨ρ1, h1, rfl⟩
theorem for_foldP {α β : Type} {tg : Tg} {body : EM Fl} (enc : α → D) (R : β → List Sl → Prop) (f : β → α → β) : ∀ (xs : List α) (b : β) (ρ : List Sl), R b ρ → (∀ x ∈ xs, ∀ b ρ, R b ρ → ∃ ρ1 ρ2, setT tg (enc x) ρ = some ρ1 ∧ body ρ1 = .ok .nx ρ2 ∧ R (f b x) ρ2) →
    ∃ ρ', R (xs.foldl f b) ρ' ∧ forD tg body (xs.map enc) ρ = .ok .nx ρ'
  | [], b, ρ, hR, _ => ⟨ρ, hR, rfl⟩
  | x :: xs, b, ρ, hR, h => by
    obtain ⟨ρ1, ρ2, e1, e2, h2⟩ := h x (List.mem_cons_self ..) b ρ hR
    obtain ⟨ρ', h3, e3⟩ := for_foldP enc R f xs (f b x) ρ2 h2 fun y hy => h y (List.mem_cons_of_mem _ hy)
    refine ⟨ρ', h3, ?_⟩
    rw [List.map_cons]
    unfold forD
    rw [e1]
    show stepF (body ρ1) _ = _
    rw [e2]
    exact e3
theorem for_foldR {α β : Type} {tg : Tg} {body : EM Fl} {d : D} (enc : α → D) (R : β → List Sl → Prop) (q : α → Bool) (f : β → α → β) : ∀ (xs : List α) (b : β) (ρ : List Sl), R b ρ → (∀ x ∈ xs, ∀ b ρ, R b ρ → ∃ ρ1 ρ2, setT tg (enc x) ρ = some ρ1 ∧ ((q x = true ∧ body ρ1 = .ok (.rt d) ρ2) ∨ (q x = false ∧ body ρ1 = .ok .nx ρ2 ∧ R (f b x) ρ2))) →
    ∃ ρ', (xs.any q = true ∧ forD tg body (xs.map enc) ρ = .ok (.rt d) ρ') ∨ (xs.any q = false ∧ forD tg body (xs.map enc) ρ = .ok .nx ρ' ∧ R (xs.foldl f b) ρ')
  | [], b, ρ, hR, _ => ⟨ρ, .inr ⟨rfl, rfl, hR⟩⟩
  | x :: xs, b, ρ, hR, h => by
    obtain ⟨ρ1, ρ2, e1, e2⟩ := h x (List.mem_cons_self ..) b ρ hR
    have e0 : forD tg body ((x :: xs).map enc) ρ = stepF (body ρ1) (forD tg body (xs.map enc)) := by
      rw [List.map_cons]
      conv => lhs; unfold forD
      rw [e1]
    rw [e0, List.any_cons]
    rcases e2 with ⟨z, e2⟩ | ⟨z, e2, h2⟩
    · exact ⟨ρ2, .inl ⟨by rw [z, Bool.true_or], by rw [e2]; rfl⟩⟩
    · obtain ⟨ρ', h3⟩ := for_foldR enc R q f xs (f b x) ρ2 h2 fun y hy => h y (List.mem_cons_of_mem _ hy)
      rw [z, Bool.false_or, e2]
      exact ⟨ρ', h3⟩
@[simp] theorem x_neg (i : Int) : gNeg (.int i) = some (.int (-i)) := rfl
@[simp] theorem ne_mk (k l : Mk) : gNe (.str k.s) (.str l.s) = some (!(k == l)) := by cases k <;> cases l <;> decide +kernel
@[simp] theorem ne_m3 (k : Mk) : gNe (.str k.s) (.str "done") = some (!(k == .done)) := ne_mk k .done
@[simp] theorem ne_m4 (k : Mk) : gNe (.str k.s) (.str "end") = some (!(k == .end_)) := ne_mk k .end_
theorem c_bound_at_most (a b : Option Int) : callRes0 f_bound_at_most [eO a, eO b] = EM.ret (.bl (bLe a b)) := by
  apply callF (by rfl)
  unfold b_bound_at_most
  cases a <;> cases b <;> simp [-eq_ss, bLe]
theorem c_World_le (a b c d : Option Int) : callRes0 f_World___le__ [eWo a b, eWo c d] = EM.ret (.bl (bLe a c && bLe b d)) := by
  apply callF (by rfl)
  unfold b_World___le__
  cases z : bLe a c <;> simp [-eq_ss, fld_W1, fld_W2, c_bound_at_most, z]
theorem isW0 (a b : Option Int) : isIns "World" none (eWo a b) = true := by
  unfold isIns eWo
  simp [-eq_ss]
theorem pWW (a b c d : Option Int) : pOO "World" (eWo a b) (eWo c d) = true := by
  unfold pOO
  rw [isW0, isW0]
  rfl
theorem f_World_at (lag len : Option Int) (h1 : okB lag) (h2 : okB len) : f_World___init__ [.oi "World" [] [], .fz (eO lag), .fz (eO len)] = .ok .non [.oi "World" ["lag", "length"] [eO lag, eO len], .fz (eO lag), .fz (eO len)] := by
  have k1 := c_is_bound lag h1
  have k2 := c_is_bound len h2
  unfold f_World___init__ fOf b_World___init__
  have e2 : sIf (tOr' (tNot' ((eCall0 f_is_bound (aCons (eVar 1) aNil)).bind toB)) (tNot' ((eCall0 f_is_bound (aCons (eVar 2) aNil)).bind toB))) sBad sNil [.oi "World" [] [], .fz (eO lag), .fz (eO len)] = .ok .nx [.oi "World" [] [], .fz (eO lag), .fz (eO len)] := by
    simp [-eq_ss, k1, k2]
  show (match sSeq _ _ [.oi "World" [] [], .fz (eO lag), .fz (eO len)] with
    | .ok (.rt d) ρ' => (match mergeA ρ' 0 [.oi "World" [] [], .fz (eO lag), .fz (eO len)] with
      | some as' => R.ok d as'
      | none => R.bad)
    | .ok .nx ρ' => (match mergeA ρ' 0 [.oi "World" [] [], .fz (eO lag), .fz (eO len)] with
      | some as' => R.ok D.non as'
      | none => R.bad)
    | .ex c ns ds ρ' => (match mergeA ρ' 0 [.oi "World" [] [], .fz (eO lag), .fz (eO len)] with
      | some as' => R.ex c ns ds as'
      | none => R.bad)
    | _ => R.bad) = _
  rw [x_seq, e2]
  rfl
theorem mk_World0 : makeRes "World" f_World___init___0 [] = EM.ret (eWo none none) := by
  funext ρ
  unfold makeRes
  have e : f_World___init___0 [.oi "World" [] []] = .ok .non [.oi "World" ["lag", "length"] [eO none, eO none]] := by
    unfold f_World___init___0 fDfl
    show takeArgs 1 (f_World___init__ [.oi "World" [] [], .fz (eO none), .fz (eO none)]) = _
    rw [f_World_at none none trivial trivial]
    rfl
  show (match f_World___init___0 [.oi "World" [] []] with
    | .ok .non (.oi c' ns vs :: _) => if c' = ("World" : Str) then R.ok (D.ins "World" ns vs) ρ else R.bad
    | _ => R.bad) = _
  rw [e]
  show (if ("World" : Str) = "World" then _ else _) = _
  rw [if_pos rfl]
  rfl
theorem c_wide : callRes0 f_World_wide [] = EM.ret (eWo none none) := by
  apply callF (by rfl)
  unfold b_World_wide
  show ans ((sRet (eMake "World" f_World___init___0 aNil)) []) = _
  rw [x_sret]
  unfold eMake
  rw [x_bind, x_anil, x_rok, mk_World0]
  rfl
/-! ### the law's own comparison -/
theorem c_under (k l : Mk) : callRes0 f__law_under [.str k.s, .str l.s] = EM.ret (.bl (k.below l)) := by
  funext ρ
  cases k <;> cases l <;> kernel_rfl
theorem c_lgap (u l : Mk) (lag len : Option Int) : callRes0 f__law_gap [.str u.s, .str l.s, eO lag, eO len] = EM.ret (eO (mGap u l lag len)) := by
  apply callF (by rfl)
  unfold b__law_gap mGap
  have hb := c_under u l
  generalize u.below l = q at hb ⊢
  cases q with
  | true => simp [-eq_ss, hb]
  | false =>
    by_cases h2 : l = .done
    · subst h2
      simp [-eq_ss, hb]
    · by_cases h3 : l = .owed
      · subst h3
        by_cases h4 : u = .done
        · subst h4
          simp [-eq_ss, hb]
        · cases lag <;> cases len <;> simp [-eq_ss, hb, h4]
      · simp [-eq_ss, hb, h2, h3]
theorem c_lterm (lag len : Option Int) (a b : Tm) : callRes0 f__law_term_below [eT a, eT b, eO lag, eO len] = EM.ret (.bl (tLe lag len a b)) := by
  obtain ⟨m, i⟩ := a
  obtain ⟨l, j⟩ := b
  apply callF (by rfl)
  unfold b__law_term_below tLe
  by_cases h : m = .zero
  · subst h
    simp [-eq_ss, eT]
  · cases z : mGap m l lag len with
    | none => simp [-eq_ss, eT, h, c_lgap, z]
    | some g => simp [-eq_ss, eT, h, c_lgap, z]
theorem fil_any {α : Type} (p : α → Bool) (l : List α) : ((l.filter p).length = 0) ↔ l.any p = false := by
  rw [List.length_eq_zero_iff, List.filter_eq_nil_iff, List.any_eq_false]
theorem c_lclause (lag len : Option Int) (a b : List Tm) (ha : a.length ≤ 1000) : callRes0 f__law_clause_below [eLc a, eLc b, eO lag, eO len] = EM.ret (.bl (cLe lag len a b)) := by
  apply callF (by rfl)
  unfold b__law_clause_below
  obtain ⟨ρ', _, h⟩ := for_allG (i := 4) (d := .bl false) (body := sSeq (sAsgO 5 (oComp (.nm 6) ((eCall0 f__law_term_below (aCons (eVar 6) (aCons (eVar 4) (aCons (eVar 2) (aCons (eVar 3) aNil))))).bind toB) (eVar 6) [6] (iVar 0))) (sIf (t2 gEq (eLenV 5) (EM.ret (.int 0))) (sRet (EM.ret (.bl false))) sNil)) eT (fun u => a.any fun l => tLe lag len l u) (fun ρ => ∃ s4 s5, ρ = [.fz (eLc a), .fz (eLc b), .fz (eO lag), .fz (eO len), s4, s5, .no]) b [.fz (eLc a), .fz (eLc b), .fz (eO lag), .fz (eO len), .no, .no, .no] ⟨_, _, rfl⟩ (fun u hu ρ hI => by
    obtain ⟨s4, s5, e⟩ := hI
    subst e
    refine ⟨[.fz (eLc a), .fz (eLc b), .fz (eO lag), .fz (eO len), .fz (eT u), .ow ((a.filter fun l => tLe lag len l u).map eT), .no], ⟨_, _, rfl⟩, ?_⟩
    have hc := oComp_pure0 (tg := .nm 6) (c := (eCall0 f__law_term_below (aCons (eVar 6) (aCons (eVar 4) (aCons (eVar 2) (aCons (eVar 3) aNil))))).bind toB) (elt := eVar 6) (vs := [6]) (src := iVar 0) (S := .fz (a.map eT)) (ρ := [.fz (eLc a), .fz (eLc b), .fz (eO lag), .fz (eO len), .fz (eT u), s5, .no]) [.fz (eLc a), .fz (eLc b), .fz (eO lag), .fz (eO len), .fz (eT u), s5, .no] eT (fun l => tLe lag len l u) eT a rfl rfl rfl trivial rfl (by rw [LIM_eq]; omega)
      fun l _ => ⟨[.fz (eLc a), .fz (eLc b), .fz (eO lag), .fz (eO len), .fz (eT u), s5, .fz (eT l)], rfl, by simp [-eq_ss, c_lterm], fun _ => rfl, rfl⟩
    show (sSeq _ _) [.fz (eLc a), .fz (eLc b), .fz (eO lag), .fz (eO len), .fz (eT u), s5, .no] = _
    rw [x_seq, x_asgO, hc]
    show (sIf _ _ _) [.fz (eLc a), .fz (eLc b), .fz (eO lag), .fz (eO len), .fz (eT u), .ow ((a.filter fun l => tLe lag len l u).map eT), .no] = _
    have hz := fil_any (fun l => tLe lag len l u) a
    cases z : a.any fun l => tLe lag len l u with
    | true =>
      have : ¬ (((a.filter fun l => tLe lag len l u).map eT).length : Int) = 0 := by
        rw [List.length_map]
        intro q
        rw [hz.mp (by omega)] at z
        cases z
      simp only [x_if, x_t2, x_len, List.getD_cons_succ, List.getD_cons_zero, x_sq4, x_rok, x_bind, x_ret, x_eqI, x_some, decide_eq_false this]
      rfl
    | false =>
      have : (((a.filter fun l => tLe lag len l u).map eT).length : Int) = 0 := by
        rw [List.length_map, hz.mpr z]
        rfl
      simp only [x_if, x_t2, x_len, List.getD_cons_succ, List.getD_cons_zero, x_sq4, x_rok, x_bind, x_ret, x_eqI, x_some, decide_eq_true this]
      rfl)
  show ans (sSeq _ _ [.fz (eLc a), .fz (eLc b), .fz (eO lag), .fz (eO len), .no, .no, .no]) = _
  rw [x_seq, for_var (d := eLc b) 1 rfl rfl]
  show ans (match forD _ _ (b.map eT) [.fz (eLc a), .fz (eLc b), .fz (eO lag), .fz (eO len), .no, .no, .no] with
    | .ok .nx ρ' => sRet (EM.ret (.bl true)) ρ'
    | r => r) = _
  rw [h]
  unfold cLe
  cases (b.all fun u => a.any fun l => tLe lag len l u) <;> rfl
theorem c_lrule (lag len : Option Int) (a b : List (List Tm)) (ha : ∀ c ∈ a, c.length ≤ 1000) (hb : b.length ≤ 1000) : callRes0 f__law_rule_below [.lst (a.map eLc), .lst (b.map eLc), eO lag, eO len] = EM.ret (.bl (csLe lag len a b)) := by
  apply callF (by rfl)
  unfold b__law_rule_below
  obtain ⟨ρ', _, h⟩ := for_allG (i := 4) (d := .bl false) (body := sSeq (sAsgO 5 (oComp (.nm 6) ((eCall0 f__law_clause_below (aCons (eVar 4) (aCons (eVar 6) (aCons (eVar 2) (aCons (eVar 3) aNil))))).bind toB) (eVar 6) [6] (iVar 1))) (sIf (t2 gEq (eLenV 5) (EM.ret (.int 0))) (sRet (EM.ret (.bl false))) sNil)) eLc (fun x => b.any fun y => cLe lag len x y) (fun ρ => ∃ s4 s5, ρ = [.fz (.lst (a.map eLc)), .fz (.lst (b.map eLc)), .fz (eO lag), .fz (eO len), s4, s5, .no]) a [.fz (.lst (a.map eLc)), .fz (.lst (b.map eLc)), .fz (eO lag), .fz (eO len), .no, .no, .no] ⟨_, _, rfl⟩ (fun u hu ρ hI => by
    obtain ⟨s4, s5, e⟩ := hI
    subst e
    refine ⟨[.fz (.lst (a.map eLc)), .fz (.lst (b.map eLc)), .fz (eO lag), .fz (eO len), .fz (eLc u), .ow ((b.filter fun l => cLe lag len u l).map eLc), .no], ⟨_, _, rfl⟩, ?_⟩
    have hc := oComp_pure0 (tg := .nm 6) (c := (eCall0 f__law_clause_below (aCons (eVar 4) (aCons (eVar 6) (aCons (eVar 2) (aCons (eVar 3) aNil))))).bind toB) (elt := eVar 6) (vs := [6]) (src := iVar 1) (S := .fz (b.map eLc)) (ρ := [.fz (.lst (a.map eLc)), .fz (.lst (b.map eLc)), .fz (eO lag), .fz (eO len), .fz (eLc u), s5, .no]) [.fz (.lst (a.map eLc)), .fz (.lst (b.map eLc)), .fz (eO lag), .fz (eO len), .fz (eLc u), s5, .no] eLc (fun l => cLe lag len u l) eLc b rfl rfl rfl trivial rfl (by rw [LIM_eq]; omega)
      fun l _ => ⟨[.fz (.lst (a.map eLc)), .fz (.lst (b.map eLc)), .fz (eO lag), .fz (eO len), .fz (eLc u), s5, .fz (eLc l)], rfl, by simp [-eq_ss, c_lclause lag len u l (ha u hu)], fun _ => rfl, rfl⟩
    show (sSeq _ _) [.fz (.lst (a.map eLc)), .fz (.lst (b.map eLc)), .fz (eO lag), .fz (eO len), .fz (eLc u), s5, .no] = _
    rw [x_seq, x_asgO, hc]
    show (sIf _ _ _) [.fz (.lst (a.map eLc)), .fz (.lst (b.map eLc)), .fz (eO lag), .fz (eO len), .fz (eLc u), .ow ((b.filter fun l => cLe lag len u l).map eLc), .no] = _
    have hz := fil_any (fun l => cLe lag len u l) b
    cases z : b.any fun l => cLe lag len u l with
    | true =>
      have : ¬ (((b.filter fun l => cLe lag len u l).map eLc).length : Int) = 0 := by
        rw [List.length_map]
        intro q
        rw [hz.mp (by omega)] at z
        cases z
      simp only [x_if, x_t2, x_len, List.getD_cons_succ, List.getD_cons_zero, x_sq4, x_rok, x_bind, x_ret, x_eqI, x_some, decide_eq_false this]
      rfl
    | false =>
      have : (((b.filter fun l => cLe lag len u l).map eLc).length : Int) = 0 := by
        rw [List.length_map, hz.mpr z]
        rfl
      simp only [x_if, x_t2, x_len, List.getD_cons_succ, List.getD_cons_zero, x_sq4, x_rok, x_bind, x_ret, x_eqI, x_some, decide_eq_true this]
      rfl)
  show ans (sSeq _ _ [.fz (.lst (a.map eLc)), .fz (.lst (b.map eLc)), .fz (eO lag), .fz (eO len), .no, .no, .no]) = _
  rw [x_seq, for_var (d := .lst (a.map eLc)) 0 rfl rfl]
  show ans (match forD _ _ (a.map eLc) [.fz (.lst (a.map eLc)), .fz (.lst (b.map eLc)), .fz (eO lag), .fz (eO len), .no, .no, .no] with
    | .ok .nx ρ' => sRet (EM.ret (.bl true)) ρ'
    | r => r) = _
  rw [h]
  unfold csLe
  cases (a.all fun x => b.any fun y => cLe lag len x y) <;> rfl
end Wk

set_option Elab.async false
set_option linter.all false
set_option maxRecDepth 100000
set_option maxHeartbeats 4000000
/-! QM3: the frontier, computed. -/
namespace Wk
open PySem DL L2
theorem w_set (i : Nat) (d : D) (ρ : List Sl) : sAsg i (EM.ret d) ρ = .ok .nx (ρ.set i (.fz d)) := rfl
theorem w_neg (i : Nat) (ρ : List Sl) : sAsg i ((EM.ret (.int 1)).bind fun d => EM.opt (gNeg d)) ρ = .ok .nx (ρ.set i (.fz (.int (-1)))) := rfl
theorem w_sub1 (i : Nat) (ρ : List Sl) : sAsg i (e2 gSub (EM.ret (.int 0)) (EM.ret (.int 1))) ρ = .ok .nx (ρ.set i (.fz (.int (-1)))) := rfl
theorem w_nilO (i : Nat) (ρ : List Sl) : sAsgO i (oLst aNil) ρ = .ok .nx (ρ.set i (.ow [])) := w_asgO i (v_lst v_nil (by decide))
theorem c_clause_length (lag : Option Int) (c : List Tm) : callRes0 f_clause_length [eC c, eO lag] = EM.ret (eO (cLen lag c)) := by
  apply callF (by rfl)
  unfold b_clause_length
  obtain ⟨ρ', h⟩ := for_foldR (tg := .tp [3, 4]) (d := .non) (body := sSeq (sIf (tAnd' (t2 gNe (eVar 3) (EM.ret (.str "done"))) (t2 gNe (eVar 3) (EM.ret (.str "end")))) (sRet (EM.ret .non)) sNil) (sSeq (sIf (tAnd' (t2 gEq (eVar 3) (EM.ret (.str "done"))) (t2 gGt (eVar 4) (eVar 2))) (sAsg 2 (eVar 4)) sNil) (sIf (tAnd' (t2 gEq (eVar 3) (EM.ret (.str "end"))) (tAnd' ((eVar 1).bind fun d => EM.ret (!isN d)) (t2 gGt (e2 gSub (eVar 4) (eVar 1)) (eVar 2)))) (sAsg 2 (e2 gSub (eVar 4) (eVar 1))) sNil))) eT (fun (b : Int) ρ => ∃ s3 s4, ρ = [.fz (eC c), .fz (eO lag), .fz (.int b), s3, s4]) (fun t => !(t.1 == .done || t.1 == .end_)) (stepL lag) c (-1) [.fz (eC c), .fz (eO lag), .fz (.int (-1)), .no, .no] ⟨_, _, rfl⟩ (fun t ht b ρ hI => by
    obtain ⟨s3, s4, e⟩ := hI
    subst e
    obtain ⟨m, i⟩ := t
    refine ⟨[.fz (eC c), .fz (eO lag), .fz (.int b), .fz (.str m.s), .fz (.int i)], ?_⟩
    by_cases h1 : m = .done
    · subst h1
      by_cases h : b < i
      · refine ⟨[.fz (eC c), .fz (eO lag), .fz (.int i), .fz (.str Mk.done.s), .fz (.int i)], rfl, .inr ⟨rfl, by simp [-eq_ss, h], ?_⟩⟩
        refine ⟨.fz (.str Mk.done.s), .fz (.int i), ?_⟩
        simp [-eq_ss, stepL, h]
      · refine ⟨[.fz (eC c), .fz (eO lag), .fz (.int b), .fz (.str Mk.done.s), .fz (.int i)], rfl, .inr ⟨rfl, by simp [-eq_ss, h], ?_⟩⟩
        refine ⟨.fz (.str Mk.done.s), .fz (.int i), ?_⟩
        cases lag <;> simp [-eq_ss, stepL, h]
    · by_cases h2 : m = .end_
      · subst h2
        cases lag with
        | none =>
          refine ⟨[.fz (eC c), .fz (eO none), .fz (.int b), .fz (.str Mk.end_.s), .fz (.int i)], rfl, .inr ⟨rfl, by simp [-eq_ss], ?_⟩⟩
          refine ⟨.fz (.str Mk.end_.s), .fz (.int i), ?_⟩
          simp [-eq_ss, stepL]
        | some l =>
          by_cases h : b < i - l
          · refine ⟨[.fz (eC c), .fz (eO (some l)), .fz (.int (i - l)), .fz (.str Mk.end_.s), .fz (.int i)], rfl, .inr ⟨rfl, by simp [-eq_ss, h], ?_⟩⟩
            refine ⟨.fz (.str Mk.end_.s), .fz (.int i), ?_⟩
            simp [-eq_ss, stepL, h]
          · refine ⟨[.fz (eC c), .fz (eO (some l)), .fz (.int b), .fz (.str Mk.end_.s), .fz (.int i)], rfl, .inr ⟨rfl, by simp [-eq_ss, h], ?_⟩⟩
            refine ⟨.fz (.str Mk.end_.s), .fz (.int i), ?_⟩
            simp [-eq_ss, stepL, h]
      · exact ⟨[.fz (eC c), .fz (eO lag), .fz (.int b), .fz (.str m.s), .fz (.int i)], rfl, .inl ⟨by simp [-eq_ss, h1, h2], by simp [-eq_ss, h1, h2]⟩⟩)
  have e1 : (sAsg 2 ((EM.ret (.int 1)).bind fun d => EM.opt (gNeg d))) [.fz (eC c), .fz (eO lag), .no, .no, .no] = .ok .nx [.fz (eC c), .fz (eO lag), .fz (.int (-1)), .no, .no] := by simp [-eq_ss]
  show ans (sSeq _ _ [.fz (eC c), .fz (eO lag), .no, .no, .no]) = _
  rw [x_seq, e1]
  show ans (sSeq _ _ [.fz (eC c), .fz (eO lag), .fz (.int (-1)), .no, .no]) = _
  rw [x_seq, for_var (d := eC c) 0 rfl rfl]
  have hb : bnd c = !(c.any fun t => !(t.1 == .done || t.1 == .end_)) := by
    unfold bnd
    rw [List.not_any_eq_all_not]
    simp [-eq_ss]
  rcases h with ⟨z, h⟩ | ⟨z, h, ⟨s3, s4, e⟩⟩
  · rw [h]
    unfold cLen
    rw [hb, z]
    rfl
  · rw [h, e]
    unfold cLen cB
    rw [hb, z]
    rfl
theorem c_safe_length (lag : Option Int) (cs : List (List Tm)) (h1 : okB lag) (hk : keepR cs) : callRes0 f_safe_length [eRu cs, eO lag] = EM.ret (eO (rLen lag cs)) := by
  apply callF (by rfl)
  unfold b_safe_length
  have ha : (sDrop (eCall0 f_check_allowed (aCons (eFld "Rule" "marks" (eVar 0)) (aCons (EM.ret (.tup (t_KEEP_MARKS.map .str))) aNil)))) [.fz (eRu cs), .fz (eO lag), .no, .no, .no] = .ok .nx [.fz (eRu cs), .fz (eO lag), .no, .no, .no] := by
    have e := c_check_allowed (rMarks cs) (rMarks_keep hk)
    simp only [x_drop, x_call, x_acons, x_fld, x_var, x_rok, x_bind, List.getD_cons_zero, fld_R2, x_some, x_ret, x_anil, e]
  have hb : (sIf (tNot' ((eCall0 f_is_bound (aCons (eVar 1) aNil)).bind toB)) sBad sNil) [.fz (eRu cs), .fz (eO lag), .no, .no, .no] = .ok .nx [.fz (eRu cs), .fz (eO lag), .no, .no, .no] := by
    simp [-eq_ss, c_is_bound lag h1]
  obtain ⟨ρ', ⟨s3, s4, e⟩, h⟩ := for_foldP (tg := .nm 3) (body := sSeq (sAsg 4 (eCall0 f_clause_length (aCons (eVar 3) (aCons (eVar 1) aNil)))) (sIf ((eCall0 f_bound_at_most (aCons (eVar 4) (aCons (eVar 2) aNil))).bind toB) (sAsg 2 (eVar 4)) sNil)) eC (fun (b : Option Int) ρ => ∃ s3 s4, ρ = [.fz (eRu cs), .fz (eO lag), .fz (eO b), s3, s4]) (rStep lag) cs none [.fz (eRu cs), .fz (eO lag), .fz .non, .no, .no] ⟨_, _, rfl⟩ (fun c hc b ρ hI => by
    obtain ⟨s3, s4, e⟩ := hI
    subst e
    unfold rStep
    cases z : bLe (cLen lag c) b with
    | true => exact ⟨[.fz (eRu cs), .fz (eO lag), .fz (eO b), .fz (eC c), s4], [.fz (eRu cs), .fz (eO lag), .fz (eO (cLen lag c)), .fz (eC c), .fz (eO (cLen lag c))], rfl, by simp [-eq_ss, c_clause_length, c_bound_at_most, z], ⟨_, _, rfl⟩⟩
    | false => exact ⟨[.fz (eRu cs), .fz (eO lag), .fz (eO b), .fz (eC c), s4], [.fz (eRu cs), .fz (eO lag), .fz (eO b), .fz (eC c), .fz (eO (cLen lag c))], rfl, by simp [-eq_ss, c_clause_length, c_bound_at_most, z], ⟨_, _, rfl⟩⟩)
  show ans (sSeq _ _ [.fz (eRu cs), .fz (eO lag), .no, .no, .no]) = _
  rw [w_seq ha, w_seq hb, w_seq (w_set 2 .non _)]
  show ans (sSeq _ _ [.fz (eRu cs), .fz (eO lag), .fz .non, .no, .no]) = _
  have hs : iSeq (eProp "Rule" f_Rule_clauses (eVar 0)) [.fz (eRu cs), .fz (eO lag), .fz .non, .no, .no] = .ok (.fz (cs.map eC)) [.fz (eRu cs), .fz (eO lag), .fz .non, .no, .no] := by
    rw [x_iseq, prop_cl (fe := eVar 0) (cs := cs) rfl]
    rfl
  rw [w_seq (ρ1 := ρ') (by rw [for_src hs trivial]; exact h), e]
  rfl
/-! ### rows -/
def eWp (p : Option Int × Option Int) : D := eWo p.1 p.2
def fStep (f : Option Int → Option Int) (b : List (Option Int × Option Int) × Option Int) (l : Option Int) : List (Option Int × Option Int) × Option Int := if bLe (f l) b.2 = true then b else (b.1 ++ [(l, f l)], f l)
theorem fStep_rows (f : Option Int → Option Int) : ∀ (ls : List (Option Int)) (b : List (Option Int × Option Int) × Option Int), (ls.foldl (fStep f) b).1 = b.1 ++ rowsG f ls b.2
  | [], b => by simp [-eq_ss, rowsG]
  | l :: ls, b => by
    rw [List.foldl_cons, fStep_rows f ls, show rowsG f (l :: ls) b.2 = if bLe (f l) b.2 = true then rowsG f ls b.2 else (l, f l) :: rowsG f ls (f l) from rfl]
    unfold fStep
    by_cases h : bLe (f l) b.2 = true
    · rw [if_pos h, if_pos h]
    · rw [if_neg h, if_neg h]
      simp [-eq_ss]
theorem lags_D : ([D.non] ++ (List.range 50).map fun (k : Nat) => D.int (49 + k * (-1))) = lags.map eO := by
  unfold lags
  rw [List.map_cons, List.map_map]
  rfl
noncomputable def bF : EM Fl := sSeq (sAsg 4 (eCall0 f_safe_length (aCons (eVar 0) (aCons (eVar 3) aNil)))) (sSeq (sIf (tAnd' ((eVar 4).bind fun d => EM.ret (!isN d)) (t2 gGt (eVar 4) (EM.ret (.int 49)))) (sAsg 4 (EM.ret (.int 49))) sNil) (sIf (tNot' ((eCall0 f_bound_at_most (aCons (eVar 4) (aCons (eVar 2) aNil))).bind toB)) (sSeq (sApp 1 (aCons (eMake "World" f_World___init__ (aCons (eVar 3) (aCons (eVar 4) aNil))) aNil)) (sAsg 2 (eVar 4))) sNil))
noncomputable def iF : EM Src := iSeq (e2 gAdd (eFz (oLst (aCons (EM.ret .non) aNil))) (eBlt gDown (aCons (EM.ret (.int 49)) (aCons ((EM.ret (.int 1)).bind fun d => EM.opt (gNeg d)) (aCons ((EM.ret (.int 1)).bind fun d => EM.opt (gNeg d)) aNil)))))
noncomputable def bFront (chk : EM D) (t : EM Fl) : EM Fl := sSeq (sDrop chk) (sSeq (sAsgO 1 (oLst aNil)) (sSeq (sAsg 2 ((EM.ret (.int 1)).bind fun d => EM.opt (gNeg d))) t))
theorem x_cap (x : Option Int) (s0 s1 s2 s3 : Sl) : (sIf (tAnd' ((eVar 4).bind fun d => EM.ret (!isN d)) (t2 gGt (eVar 4) (EM.ret (.int 49)))) (sAsg 4 (EM.ret (.int 49))) sNil) [s0, s1, s2, s3, .fz (eO x)] = .ok .nx [s0, s1, s2, s3, .fz (eO (cap x))] := by
  cases x with
  | none => simp [-eq_ss, cap]
  | some x =>
    by_cases h : 49 < x <;> simp [-eq_ss, cap, h]
theorem for_foldN {α β : Type} {tg : Tg} {body : EM Fl} (enc : α → D) (R : Nat → β → List Sl → Prop) (f : β → α → β) : ∀ (xs : List α) (b : β) (ρ : List Sl), R xs.length b ρ → (∀ n, ∀ x ∈ xs, ∀ b ρ, R (n + 1) b ρ → ∃ ρ1 ρ2, setT tg (enc x) ρ = some ρ1 ∧ body ρ1 = .ok .nx ρ2 ∧ R n (f b x) ρ2) →
    ∃ ρ', R 0 (xs.foldl f b) ρ' ∧ forD tg body (xs.map enc) ρ = .ok .nx ρ'
  | [], b, ρ, hR, _ => ⟨ρ, hR, rfl⟩
  | x :: xs, b, ρ, hR, h => by
    obtain ⟨ρ1, ρ2, e1, e2, h2⟩ := h xs.length x (List.mem_cons_self ..) b ρ hR
    obtain ⟨ρ', h3, e3⟩ := for_foldN enc R f xs (f b x) ρ2 h2 fun n y hy => h n y (List.mem_cons_of_mem _ hy)
    refine ⟨ρ', h3, ?_⟩
    rw [List.map_cons]
    unfold forD
    rw [e1]
    show stepF (body ρ1) _ = _
    rw [e2]
    exact e3
theorem front_src (ρ : List Sl) : iF ρ = .ok (.fz (lags.map eO)) ρ := by
  have e : gDown [.int 49, .int (-1), .int (-1)] = some (.lst ((List.range 50).map fun (k : Nat) => .int (49 + k * (-1)))) := by
    show (if (-1 : Int) = -1 ∧ -(2 ^ 62) ≤ (49 : Int) ∧ (49 : Int) < 2 ^ 62 ∧ -(2 ^ 62) ≤ (-1 : Int) ∧ (-1 : Int) < 2 ^ 62 ∧ ((49 : Int) - (-1)).toNat ≤ 100000 then some (D.lst ((List.range ((49 : Int) - (-1)).toNat).map fun (k : Nat) => .int (49 + k * (-1)))) else none) = _
    rw [if_pos (by decide)]
    rfl
  have e2 : eBlt gDown (aCons (EM.ret (.int 49)) (aCons ((EM.ret (.int 1)).bind fun d => EM.opt (gNeg d)) (aCons ((EM.ret (.int 1)).bind fun d => EM.opt (gNeg d)) aNil))) ρ = .ok (.lst ((List.range 50).map fun (k : Nat) => .int (49 + k * (-1)))) ρ := by
    rw [x_blt]
    show (EM.opt (gDown [.int 49, .int (-1), .int (-1)])) ρ = _
    rw [e]
    rfl
  have e3 : eFz (oLst (aCons (EM.ret .non) aNil)) ρ = .ok (.lst [.non]) ρ := v_fz (v_cons rfl v_nil) (by decide)
  unfold iF
  rw [x_iseq, v_addL e3 e2 (by rw [List.length_map, List.length_range]; decide), lags_D]
  rfl
theorem front_loop (cs : List (List Tm)) (hk : keepR cs) : ∃ s2 s3 s4, sFor (.nm 3) iF bF [.fz (eRu cs), .ow [], .fz (.int (-1)), .no, .no] = .ok .nx [.fz (eRu cs), .ow ((rows cs).map eWp), s2, s3, s4] := by
  obtain ⟨ρ', ⟨_, _, s3, s4, e⟩, h⟩ := for_foldN (tg := .nm 3) (body := bF) eO (fun n (b : List (Option Int × Option Int) × Option Int) ρ => oLe (some (-1)) b.2 ∧ b.1.length + n ≤ 51 ∧ ∃ s3 s4, ρ = [.fz (eRu cs), .ow (b.1.map eWp), .fz (eO b.2), s3, s4]) (fStep (fL cs)) lags ([], some (-1)) [.fz (eRu cs), .ow [], .fz (.int (-1)), .no, .no] ⟨oLe_refl _, by decide, _, _, rfl⟩ (fun n l hl b ρ hI => by
    obtain ⟨h1, h2, s3, s4, e⟩ := hI
    subst e
    have okl := (mem_lags l).mp hl
    have a1 : (sAsg 4 (eCall0 f_safe_length (aCons (eVar 0) (aCons (eVar 3) aNil)))) [.fz (eRu cs), .ow (b.1.map eWp), .fz (eO b.2), .fz (eO l), s4] = .ok .nx [.fz (eRu cs), .ow (b.1.map eWp), .fz (eO b.2), .fz (eO l), .fz (eO (rLen l cs))] := by
      rw [w_asg 4 (v_call (v_cons (v_var 0 rfl) (v_cons (v_var 3 rfl) v_nil)) (c_safe_length l cs okl hk))]
      rfl
    have a2 : _ = R.ok Fl.nx [.fz (eRu cs), .ow (b.1.map eWp), .fz (eO b.2), .fz (eO l), .fz (eO (fL cs l))] := x_cap (rLen l cs) (.fz (eRu cs)) (.ow (b.1.map eWp)) (.fz (eO b.2)) (.fz (eO l))
    have a3 : (eCall0 f_bound_at_most (aCons (eVar 4) (aCons (eVar 2) aNil))) [.fz (eRu cs), .ow (b.1.map eWp), .fz (eO b.2), .fz (eO l), .fz (eO (fL cs l))] = .ok (.bl (bLe (fL cs l) b.2)) [.fz (eRu cs), .ow (b.1.map eWp), .fz (eO b.2), .fz (eO l), .fz (eO (fL cs l))] :=
      v_call (v_cons (v_var 4 rfl) (v_cons (v_var 2 rfl) v_nil)) (c_bound_at_most _ _)
    unfold fStep
    cases z : bLe (fL cs l) b.2 with
    | true =>
      refine ⟨_, [.fz (eRu cs), .ow (b.1.map eWp), .fz (eO b.2), .fz (eO l), .fz (eO (fL cs l))], rfl, ?_, h1, by rw [if_pos rfl]; omega, _, _, rfl⟩
      unfold bF
      show (sSeq _ _) [.fz (eRu cs), .ow (b.1.map eWp), .fz (eO b.2), .fz (eO l), s4] = _
      rw [w_seq a1, w_seq a2, x_if, x_tnot, v_test a3, z]
      rfl
    | false =>
      have hn := (bLe_ff _ _).mp z
      have okf : okB (fL cs l) := cap_ok fun q => hn (oLe_trans q h1)
      refine ⟨_, [.fz (eRu cs), .ow ((b.1 ++ [(l, fL cs l)]).map eWp), .fz (eO (fL cs l)), .fz (eO l), .fz (eO (fL cs l))], rfl, ?_, oLe_trans h1 (oLe_of_not hn), ?_, _, _, rfl⟩
      · unfold bF
        show (sSeq _ _) [.fz (eRu cs), .ow (b.1.map eWp), .fz (eO b.2), .fz (eO l), s4] = _
        have a4 : (sApp 1 (aCons (eMake "World" f_World___init__ (aCons (eVar 3) (aCons (eVar 4) aNil))) aNil)) [.fz (eRu cs), .ow (b.1.map eWp), .fz (eO b.2), .fz (eO l), .fz (eO (fL cs l))] = .ok .nx [.fz (eRu cs), .ow ((b.1 ++ [(l, fL cs l)]).map eWp), .fz (eO b.2), .fz (eO l), .fz (eO (fL cs l))] := by
          rw [x_app]
          simp only [List.getD_cons_succ, List.getD_cons_zero, x_own1]
          rw [v_cons (v_make (v_cons (v_var 3 rfl) (v_cons (v_var 4 rfl) v_nil)) (mk_World l (fL cs l) okl okf)) v_nil, x_rok]
          show (if (b.1.map eWp).length < LIM then _ else _) = _
          rw [if_pos (by rw [List.length_map, LIM_eq]; omega), List.map_append]
          rfl
        rw [w_seq a1, w_seq a2, x_if, x_tnot, v_test a3, z]
        show (sSeq _ _) [.fz (eRu cs), .ow (b.1.map eWp), .fz (eO b.2), .fz (eO l), .fz (eO (fL cs l))] = _
        rw [w_seq a4]
        rfl
      · rw [if_neg Bool.false_ne_true, List.length_append, List.length_singleton]
        show b.1.length + 1 + n ≤ 51
        omega)
  rw [fStep_rows, List.nil_append] at e
  refine ⟨.fz (eO (lags.foldl (fStep (fL cs)) ([], some (-1))).2), s3, s4, ?_⟩
  rw [for_src (front_src _) trivial]
  show forD (.nm 3) bF (lags.map eO) _ = _
  rw [h, e]
  rfl
theorem front_body (cs : List (List Tm)) (hk : keepR cs) : ∃ s2 s3 s4, sSeq (sDrop (eCall0 f_check_allowed (aCons (eFld "Rule" "marks" (eVar 0)) (aCons (EM.ret (.tup (t_KEEP_MARKS.map .str))) aNil)))) (sSeq (sAsgO 1 (oLst aNil)) (sSeq (sAsg 2 ((EM.ret (.int 1)).bind fun d => EM.opt (gNeg d))) (sFor (.nm 3) iF bF))) [.fz (eRu cs), .no, .no, .no, .no] = .ok .nx [.fz (eRu cs), .ow ((rows cs).map eWp), s2, s3, s4] := by
  obtain ⟨s2, s3, s4, h⟩ := front_loop cs hk
  have ha : (sDrop (eCall0 f_check_allowed (aCons (eFld "Rule" "marks" (eVar 0)) (aCons (EM.ret (.tup (t_KEEP_MARKS.map .str))) aNil)))) [.fz (eRu cs), .no, .no, .no, .no] = .ok .nx [.fz (eRu cs), .no, .no, .no, .no] := by
    have e := c_check_allowed (rMarks cs) (rMarks_keep hk)
    simp only [x_drop, x_call, x_acons, x_fld, x_var, x_rok, x_bind, List.getD_cons_zero, fld_R2, x_some, x_ret, x_anil, e]
  refine ⟨s2, s3, s4, ?_⟩
  rw [w_seq ha, w_seq (w_nilO 1 _), w_seq (w_neg 2 _)]
  exact h
theorem seq_into4 {a b c d e : EM Fl} {ρ ρ1 : List Sl} (h : sSeq a (sSeq b (sSeq c d)) ρ = .ok .nx ρ1) : sSeq a (sSeq b (sSeq c (sSeq d e))) ρ = e ρ1 := by
  rw [x_seq] at h ⊢
  cases ha : a ρ with
  | ok f r1 =>
    rw [ha] at h
    cases f with
    | nx =>
      have h : sSeq b (sSeq c d) r1 = .ok .nx ρ1 := h
      show sSeq b (sSeq c (sSeq d e)) r1 = _
      rw [x_seq] at h ⊢
      cases hb : b r1 with
      | ok f r2 =>
        rw [hb] at h
        cases f with
        | nx =>
          have h : sSeq c d r2 = .ok .nx ρ1 := h
          show sSeq c (sSeq d e) r2 = _
          rw [x_seq] at h ⊢
          cases hc : c r2 with
          | ok f r3 =>
            rw [hc] at h
            cases f with
            | nx =>
              have h : d r3 = .ok .nx ρ1 := h
              show sSeq d e r3 = _
              rw [x_seq, h]
            | _ => cases h
          | bad => rw [hc] at h; cases h
          | ex => rw [hc] at h; cases h
        | _ => cases h
      | bad => rw [hb] at h; cases h
      | ex => rw [hb] at h; cases h
    | _ => cases h
  | bad => rw [ha] at h; cases h
  | ex => rw [ha] at h; cases h
theorem c_frontier (cs : List (List Tm)) (hk : keepR cs) : callRes0 f_frontier [eRu cs] = EM.ret (.lst ((rows cs).map eWp)) := by
  obtain ⟨s2, s3, s4, h⟩ := front_body cs hk
  apply callF (by rfl)
  unfold b_frontier
  show ans (sSeq _ (sSeq _ (sSeq _ (sSeq (sFor (.nm 3) iF bF) (sRet (eVar 1))))) [.fz (eRu cs), .no, .no, .no, .no]) = _
  rw [seq_into4 h]
  rfl
theorem fo_frontier (cs : List (List Tm)) (hk : keepR cs) : ∃ ρ', f_o_frontier [eRu cs] = .ok ((rows cs).map eWp) ρ' := by
  obtain ⟨s2, s3, s4, h⟩ := front_body cs hk
  refine ⟨[.fz (eRu cs), .no, s2, s3, s4], ?_⟩
  unfold f_o_frontier fOO
  rw [if_pos (show [eRu cs].length = 1 from rfl)]
  unfold gRetO b_o_frontier
  show (match (sSeq _ (sSeq _ (sSeq _ (sFor (.nm 3) iF bF)))) [.fz (eRu cs), .no, .no, .no, .no] with
    | .ok .nx ρ' => (match ρ'.getD 1 .no with
      | .ow xs => R.ok xs (ρ'.set 1 .no)
      | _ => .bad)
    | _ => .bad) = _
  rw [h]
  rfl
end Wk

set_option Elab.async false
set_option linter.all false
set_option maxRecDepth 100000
set_option maxHeartbeats 4000000
/-! QM4: the law's own frontier, computed. -/
namespace Wk
open PySem DL L2
def dE (t : Tm) : Bool := t.1 == .done || t.1 == .end_
theorem pair_fold (lag : Option Int) : ∀ (c : List Tm) (b : Int) (k : Bool), c.foldl (fun (p : Int × Bool) t => (stepL lag p.1 t, p.2 && dE t)) (b, k) = (c.foldl (stepL lag) b, k && bnd c)
  | [], b, k => by simp [-eq_ss, bnd]
  | t :: c, b, k => by
    rw [List.foldl_cons, pair_fold lag c, List.foldl_cons]
    unfold bnd
    rw [List.all_cons, Bool.and_assoc]
    rfl
noncomputable def bL2 : EM Fl := (sSeq (sIf (tAnd' (t2 gNe (eIxV 6 (EM.ret (.int 0))) (EM.ret (.str "done"))) (t2 gNe (eIxV 6 (EM.ret (.int 0))) (EM.ret (.str "end")))) (sAsg 5 (EM.ret (.bl false))) sNil) (sSeq (sIf (tAnd' (t2 gEq (eIxV 6 (EM.ret (.int 0))) (EM.ret (.str "done"))) (t2 gGt (eIxV 6 (EM.ret (.int 1))) (eVar 4))) (sAsg 4 (eIxV 6 (EM.ret (.int 1)))) sNil) (sIf (tAnd' (t2 gEq (eIxV 6 (EM.ret (.int 0))) (EM.ret (.str "end"))) (tAnd' ((eVar 1).bind fun d => EM.ret (!isN d)) (t2 gGt (e2 gSub (eIxV 6 (EM.ret (.int 1))) (eVar 1)) (eVar 4)))) (sAsg 4 (e2 gSub (eIxV 6 (EM.ret (.int 1))) (eVar 1))) sNil)))
theorem len_term (lag : Option Int) (s0 s2 s3 : Sl) (b : Int) (k : Bool) (t : Tm) : bL2 [s0, .fz (eO lag), s2, s3, .fz (.int b), .fz (.bl k), .fz (eT t)] = .ok .nx [s0, .fz (eO lag), s2, s3, .fz (.int (stepL lag b t)), .fz (.bl (k && dE t)), .fz (eT t)] := by
  obtain ⟨m, i⟩ := t
  unfold bL2 stepL dE eT
  by_cases h1 : m = .done
  · subst h1
    by_cases h : b < i
    · simp [-eq_ss, h]
    · cases lag <;> simp [-eq_ss, h]
  · by_cases h2 : m = .end_
    · subst h2
      cases lag with
      | none => simp [-eq_ss]
      | some l =>
        by_cases h : b < i - l <;> simp [-eq_ss, h]
    · cases lag <;> simp [-eq_ss, h1, h2]
noncomputable def bL1 : EM Fl := (sSeq (sAsg 4 (e2 gSub (EM.ret (.int 0)) (EM.ret (.int 1)))) (sSeq (sAsg 5 (EM.ret (.bl true))) (sSeq (sFor (.nm 6) (iSeq (eVar 3)) bL2) (sIf (tAnd' ((eVar 5).bind toB) (tOr' ((eVar 2).bind fun d => EM.ret (isN d)) (t2 gLt (eVar 4) (eVar 2)))) (sAsg 2 (eVar 4)) sNil))))
theorem len_clause (lag : Option Int) (s0 s4 s5 s6 : Sl) (acc : Option Int) (c : List Tm) : ∃ t4 t5 t6, bL1 [s0, .fz (eO lag), .fz (eO acc), .fz (eLc c), s4, s5, s6] = .ok .nx [s0, .fz (eO lag), .fz (eO (lStepR lag acc c)), .fz (eLc c), t4, t5, t6] := by
  obtain ⟨ρ', ⟨u6, e⟩, h⟩ := for_foldP (tg := .nm 6) (body := bL2) eT (fun (p : Int × Bool) ρ => ∃ s6, ρ = [s0, .fz (eO lag), .fz (eO acc), .fz (eLc c), .fz (.int p.1), .fz (.bl p.2), s6]) (fun (p : Int × Bool) t => (stepL lag p.1 t, p.2 && dE t)) c (-1, true) [s0, .fz (eO lag), .fz (eO acc), .fz (eLc c), .fz (.int (-1)), .fz (.bl true), s6] ⟨_, rfl⟩ (fun t ht p ρ hI => by
    obtain ⟨s6, e⟩ := hI
    subst e
    exact ⟨_, _, rfl, len_term lag s0 (.fz (eO acc)) (.fz (eLc c)) p.1 p.2 t, _, rfl⟩)
  rw [pair_fold, Bool.true_and] at e
  have e : ρ' = [s0, .fz (eO lag), .fz (eO acc), .fz (eLc c), .fz (.int (cB lag c)), .fz (.bl (bnd c)), u6] := e
  refine ⟨.fz (.int (cB lag c)), .fz (.bl (bnd c)), u6, ?_⟩
  unfold bL1
  rw [w_seq (w_sub1 4 _), w_seq (w_set 5 (.bl true) _)]
  show (sSeq _ _) [s0, .fz (eO lag), .fz (eO acc), .fz (eLc c), .fz (.int (-1)), .fz (.bl true), s6] = _
  rw [w_seq (ρ1 := ρ') (by rw [for_var 3 rfl rfl]; exact h), e]
  unfold lStepR
  cases hb : bnd c with
  | false => simp [-eq_ss]
  | true =>
    cases acc with
    | none => simp [-eq_ss]
    | some y =>
      by_cases hy : cB lag c < y <;> simp [-eq_ss, hy]
theorem c_llength (lag : Option Int) (cs : List (List Tm)) : callRes0 f__law_length [.lst (cs.map eLc), eO lag] = EM.ret (eO (lLen lag cs)) := by
  apply callF (by rfl)
  unfold b__law_length
  obtain ⟨ρ', ⟨s3, s4, s5, s6, e⟩, h⟩ := for_foldP (tg := .nm 3) (body := bL1) eLc (fun (acc : Option Int) ρ => ∃ s3 s4 s5 s6, ρ = [.fz (.lst (cs.map eLc)), .fz (eO lag), .fz (eO acc), s3, s4, s5, s6]) (lStepR lag) cs none [.fz (.lst (cs.map eLc)), .fz (eO lag), .fz .non, .no, .no, .no, .no] ⟨_, _, _, _, rfl⟩ (fun c hc acc ρ hI => by
    obtain ⟨s3, s4, s5, s6, e⟩ := hI
    subst e
    obtain ⟨t4, t5, t6, h⟩ := len_clause lag (.fz (.lst (cs.map eLc))) s4 s5 s6 acc c
    exact ⟨_, _, rfl, h, _, _, _, _, rfl⟩)
  show ans ((sSeq _ (sSeq (sFor (.nm 3) (iSeq (eVar 0)) bL1) (sRet (eVar 2)))) [.fz (.lst (cs.map eLc)), .fz (eO lag), .no, .no, .no, .no, .no]) = _
  rw [w_seq (w_set 2 .non _)]
  show ans ((sSeq _ _) [.fz (.lst (cs.map eLc)), .fz (eO lag), .fz .non, .no, .no, .no, .no]) = _
  rw [w_seq (ρ1 := ρ') (by rw [for_var 0 rfl rfl]; exact h), e]
  rfl
/-! ### rows -/
def lagOf (k : Nat) : Option Int := if 0 < k then some (50 - (k : Int)) else none
theorem lagOf_all : (List.range 51).map lagOf = lags := by decide +kernel
noncomputable def bLF : EM Fl := (sSeq (sAsg 4 (EM.ret .non)) (sSeq (sIf (t2 gGt (eVar 3) (EM.ret (.int 0))) (sAsg 4 (e2 gSub (EM.ret (.int 50)) (eVar 3))) sNil) (sSeq (sAsg 5 (eCall0 f__law_length (aCons (eVar 0) (aCons (eVar 4) aNil)))) (sSeq (sIf (tAnd' ((eVar 5).bind fun d => EM.ret (!isN d)) (t2 gGt (eVar 5) (EM.ret (.int 49)))) (sAsg 5 (EM.ret (.int 49))) sNil) (sIf (tAnd' ((eVar 2).bind fun d => EM.ret (!isN d)) (tOr' ((eVar 5).bind fun d => EM.ret (isN d)) (t2 gGt (eVar 5) (eVar 2)))) (sSeq (sApp 1 (aCons (eTup (aCons (eVar 4) (aCons (eVar 5) aNil))) aNil)) (sAsg 2 (eVar 5))) sNil)))))
theorem lf_step (cs : List (List Tm)) (k : Nat) (rs : List (Option Int × Option Int)) (r : Option Int) (hl : rs.length ≤ 1000) (s4 s5 : Sl) : ∃ t4 t5, bLF [.fz (.lst (cs.map eLc)), .ow (rs.map ePr), .fz (eO r), .fz (.int (0 + k)), s4, s5] =
    .ok .nx [.fz (.lst (cs.map eLc)), .ow ((fStep (fL cs) (rs, r) (lagOf k)).1.map ePr), .fz (eO (fStep (fL cs) (rs, r) (lagOf k)).2), .fz (.int (0 + k)), t4, t5] := by
  have a1 : (sIf (t2 gGt (eVar 3) (EM.ret (.int 0))) (sAsg 4 (e2 gSub (EM.ret (.int 50)) (eVar 3))) sNil) [.fz (.lst (cs.map eLc)), .ow (rs.map ePr), .fz (eO r), .fz (.int (0 + k)), .fz .non, s5] = .ok .nx [.fz (.lst (cs.map eLc)), .ow (rs.map ePr), .fz (eO r), .fz (.int (0 + k)), .fz (eO (lagOf k)), s5] := by
    unfold lagOf
    by_cases h : 0 < k
    · simp [-eq_ss, h]
    · simp [-eq_ss, h]
  have a2 : (sAsg 5 (eCall0 f__law_length (aCons (eVar 0) (aCons (eVar 4) aNil)))) [.fz (.lst (cs.map eLc)), .ow (rs.map ePr), .fz (eO r), .fz (.int (0 + k)), .fz (eO (lagOf k)), s5] = .ok .nx [.fz (.lst (cs.map eLc)), .ow (rs.map ePr), .fz (eO r), .fz (.int (0 + k)), .fz (eO (lagOf k)), .fz (eO (rLen (lagOf k) cs))] := by
    rw [w_asg 5 (v_call (v_cons (v_var 0 rfl) (v_cons (v_var 4 rfl) v_nil)) (c_llength (lagOf k) cs)), lLen_eq]
    rfl
  have a3 : (sIf (tAnd' ((eVar 5).bind fun d => EM.ret (!isN d)) (t2 gGt (eVar 5) (EM.ret (.int 49)))) (sAsg 5 (EM.ret (.int 49))) sNil) [.fz (.lst (cs.map eLc)), .ow (rs.map ePr), .fz (eO r), .fz (.int (0 + k)), .fz (eO (lagOf k)), .fz (eO (rLen (lagOf k) cs))] = .ok .nx [.fz (.lst (cs.map eLc)), .ow (rs.map ePr), .fz (eO r), .fz (.int (0 + k)), .fz (eO (lagOf k)), .fz (eO (fL cs (lagOf k)))] := by
    unfold fL
    cases rLen (lagOf k) cs with
    | none => simp [-eq_ss, cap]
    | some x => by_cases h : 49 < x <;> simp [-eq_ss, cap, h]
  have a4 : (tAnd' ((eVar 2).bind fun d => EM.ret (!isN d)) (tOr' ((eVar 5).bind fun d => EM.ret (isN d)) (t2 gGt (eVar 5) (eVar 2)))) [.fz (.lst (cs.map eLc)), .ow (rs.map ePr), .fz (eO r), .fz (.int (0 + k)), .fz (eO (lagOf k)), .fz (eO (fL cs (lagOf k)))] = .ok (!bLe (fL cs (lagOf k)) r) [.fz (.lst (cs.map eLc)), .ow (rs.map ePr), .fz (eO r), .fz (.int (0 + k)), .fz (eO (lagOf k)), .fz (eO (fL cs (lagOf k)))] := by
    cases fL cs (lagOf k) with
    | none => cases r <;> simp [-eq_ss, bLe]
    | some x =>
      cases r with
      | none => simp [-eq_ss, bLe]
      | some y =>
        by_cases h : x ≤ y
        · have h2 : ¬ y < x := by omega
          simp [-eq_ss, bLe, h, h2]
        · have h2 : y < x := by omega
          simp [-eq_ss, bLe, h, h2]
  unfold fStep
  cases z : bLe (fL cs (lagOf k)) r with
  | true =>
    refine ⟨.fz (eO (lagOf k)), .fz (eO (fL cs (lagOf k))), ?_⟩
    · unfold bLF
      rw [w_seq (w_set 4 .non _)]
      show (sSeq _ _) [.fz (.lst (cs.map eLc)), .ow (rs.map ePr), .fz (eO r), .fz (.int (0 + k)), .fz .non, s5] = _
      rw [w_seq a1, w_seq a2, w_seq a3, x_if, a4, z, if_pos rfl]
      rfl
  | false =>
    refine ⟨.fz (eO (lagOf k)), .fz (eO (fL cs (lagOf k))), ?_⟩
    unfold bLF
    rw [w_seq (w_set 4 .non _)]
    show (sSeq _ _) [.fz (.lst (cs.map eLc)), .ow (rs.map ePr), .fz (eO r), .fz (.int (0 + k)), .fz .non, s5] = _
    have a5 : (sApp 1 (aCons (eTup (aCons (eVar 4) (aCons (eVar 5) aNil))) aNil)) [.fz (.lst (cs.map eLc)), .ow (rs.map ePr), .fz (eO r), .fz (.int (0 + k)), .fz (eO (lagOf k)), .fz (eO (fL cs (lagOf k)))] = .ok .nx [.fz (.lst (cs.map eLc)), .ow ((rs ++ [(lagOf k, fL cs (lagOf k))]).map ePr), .fz (eO r), .fz (.int (0 + k)), .fz (eO (lagOf k)), .fz (eO (fL cs (lagOf k)))] := by
      rw [x_app]
      simp only [List.getD_cons_succ, List.getD_cons_zero, x_own1]
      rw [v_cons (v_tup (v_cons (v_var 4 rfl) (v_cons (v_var 5 rfl) v_nil)) (Nat.le_of_ble_eq_true rfl)) v_nil, x_rok]
      show (if (rs.map ePr).length < LIM then _ else _) = _
      rw [if_pos (by rw [List.length_map, LIM_eq]; omega), List.map_append]
      rfl
    rw [w_seq a1, w_seq a2, w_seq a3, x_if, a4, z, if_neg Bool.false_ne_true]
    show (sSeq _ _) [.fz (.lst (cs.map eLc)), .ow (rs.map ePr), .fz (eO r), .fz (.int (0 + k)), .fz (eO (lagOf k)), .fz (eO (fL cs (lagOf k)))] = _
    rw [w_seq a5]
    rfl
theorem c_lfrontier (cs : List (List Tm)) : callRes0 f__law_frontier [.lst (cs.map eLc)] = EM.ret (.lst ((rows cs).map ePr)) := by
  apply callF (by rfl)
  unfold b__law_frontier
  obtain ⟨ρ', ⟨_, s3, s4, s5, e⟩, h⟩ := for_foldN (tg := .nm 3) (body := bLF) (fun k : Nat => D.int (0 + k)) (fun n (b : List (Option Int × Option Int) × Option Int) ρ => b.1.length + n ≤ 51 ∧ ∃ s3 s4 s5, ρ = [.fz (.lst (cs.map eLc)), .ow (b.1.map ePr), .fz (eO b.2), s3, s4, s5]) (fun b k => fStep (fL cs) b (lagOf k)) (List.range 51) ([], some (-1)) [.fz (.lst (cs.map eLc)), .ow [], .fz (.int (-1)), .no, .no, .no] ⟨by decide, _, _, _, rfl⟩ (fun n k hk b ρ hI => by
    obtain ⟨h2, s3, s4, s5, e⟩ := hI
    subst e
    obtain ⟨rs, r⟩ := b
    obtain ⟨t4, t5, h⟩ := lf_step cs k rs r (by have : rs.length + (n + 1) ≤ 51 := h2; omega) s4 s5
    refine ⟨_, _, rfl, h, ?_, _, _, _, rfl⟩
    unfold fStep
    split
    · have : rs.length + (n + 1) ≤ 51 := h2
      show rs.length + n ≤ 51
      omega
    · have : rs.length + (n + 1) ≤ 51 := h2
      show (rs ++ [_]).length + n ≤ 51
      rw [List.length_append, List.length_singleton]
      omega)
  have hf : (List.range 51).foldl (fun b k => fStep (fL cs) b (lagOf k)) ([], some (-1)) = lags.foldl (fStep (fL cs)) ([], some (-1)) := by
    rw [← lagOf_all, List.foldl_map]
  rw [hf, fStep_rows, List.nil_append] at e
  have e : ρ' = [.fz (.lst (cs.map eLc)), .ow ((rows cs).map ePr), .fz (eO (lags.foldl (fStep (fL cs)) ([], some (-1))).2), s3, s4, s5] := e
  show ans ((sSeq _ (sSeq _ (sSeq (sFor (.nm 3) (iRg1 (aCons (EM.ret (.int 51)) aNil)) bLF) (sRet (eVar 1))))) [.fz (.lst (cs.map eLc)), .no, .no, .no, .no, .no]) = _
  rw [w_seq (w_nilO 1 _), w_seq (w_sub1 2 _)]
  show ans ((sSeq _ _) [.fz (.lst (cs.map eLc)), .ow [], .fz (.int (-1)), .no, .no, .no]) = _
  have hs : iRg1 (aCons (EM.ret (.int 51)) aNil) [.fz (.lst (cs.map eLc)), .ow [], .fz (.int (-1)), .no, .no, .no] = .ok (.rg 0 51) [.fz (.lst (cs.map eLc)), .ow [], .fz (.int (-1)), .no, .no, .no] := by
    show gRg1 [.int (51 : Nat)] _ = _
    rw [rg1 51 (by decide)]
    rfl
  rw [w_seq (ρ1 := ρ') (by rw [for_src hs trivial]; exact h), e]
  rfl
theorem c_next (x : Int) : callRes0 f__law_next_bound [.int x] = EM.ret (eO (nextB x)) := by
  apply callF (by rfl)
  unfold b__law_next_bound nextB
  by_cases h : x < 49 <;> simp [-eq_ss, h]
end Wk

set_option Elab.async false
set_option linter.all false
set_option maxRecDepth 100000
set_option maxHeartbeats 4000000
/-! QM5: what the law asks of the frontier, computed. -/
namespace Wk
open PySem DL L2
theorem w_if0 {c : EM Bool} {a : EM Fl} {ρ ρ1 : List Sl} (h : c ρ = .ok false ρ1) : sIf c a sNil ρ = .ok .nx ρ1 := by
  rw [x_if, h]
  rfl
theorem t_same {n : Nat} {f g : EM D} {x : D} {ρ ρ1 ρ2 : List Sl} (h1 : f ρ = .ok x ρ1) (h2 : g ρ1 = .ok x ρ2) (hs : SameD n x) : eCall0 (f__law_same n) (aCons f (aCons g aNil)) ρ = .ok (.bl true) ρ2 :=
  v_call2 (v_cons2 h1 (v_cons2 h2 v_nil)) (same_0 n x hs)
theorem w_same {n : Nat} {f g : EM D} {x : D} {a : EM Fl} {ρ ρ1 ρ2 : List Sl} (h1 : f ρ = .ok x ρ1) (h2 : g ρ1 = .ok x ρ2) (hs : SameD n x) : sIf (tNot' ((eCall0 (f__law_same n) (aCons f (aCons g aNil))).bind toB)) a sNil ρ = .ok .nx ρ2 :=
  w_ifnot2 (t_same h1 h2 hs)
/-! ### told -/
theorem isi_ll (xs : List D) : isiD "list" (.lst xs) = some true := by
  show kitB "list" "list" = some true
  decide +kernel
theorem isiO_W (p : Option Int × Option Int) : isiO "World" (eWp p) = some true := by rfl
theorem same_rows (rs : List (Option Int × Option Int)) (hl : rs.length ≤ 51) : SameD 9 (.lst (rs.map ePr)) := by
  refine .lst _ (fun x hx => ?_) (by rw [List.length_map]; omega)
  obtain ⟨p, _, e⟩ := List.mem_map.mp hx
  subst e
  refine .tup _ (fun y hy => ?_) (Nat.le_of_ble_eq_true rfl)
  rcases List.mem_cons.mp hy with e | e
  · rw [e]; exact same_eO _ _
  · rw [List.mem_singleton.mp e]; exact same_eO _ _
noncomputable def bT : EM Fl := (sSeq (sIf (tNot' (((eIsiO "World" (eVar 4)).bind fun b => EM.ret (.bl b)).bind toB)) (sRet (EM.ret (.bl false))) sNil) (sApp 3 (aCons (eTup (aCons (eFld "World" "lag" (eVar 4)) (aCons (eFld "World" "length" (eVar 4)) aNil))) aNil)))
theorem c_told (cs : List (List Tm)) (hk : keepR cs) (hne : rows cs ≠ []) : callRes0 f__law_told [eRu cs, .lst ((rows cs).map ePr)] = EM.ret (.bl true) := by
  have hl := rows_len cs
  have hc := c_frontier cs hk
  have hn : ¬ (((rows cs).map eWp).length : Int) = 0 := by
    rw [List.length_map]
    intro q
    exact hne (List.length_eq_zero_iff.mp (by omega))
  apply callF (by rfl)
  unfold b__law_told
  obtain ⟨ρ', ⟨_, s4, e⟩, h⟩ := for_foldN (tg := .nm 4) (body := bT) eWp (fun n (b : List (Option Int × Option Int)) ρ => b.length + n ≤ 51 ∧ ∃ s4, ρ = [.fz (eRu cs), .fz (.lst ((rows cs).map ePr)), .fz (.lst ((rows cs).map eWp)), .ow (b.map ePr), s4]) (fun b p => b ++ [p]) (rows cs) [] [.fz (eRu cs), .fz (.lst ((rows cs).map ePr)), .fz (.lst ((rows cs).map eWp)), .ow [], .no] ⟨by rw [List.length_nil]; omega, _, rfl⟩ (fun n p hp b ρ hI => by
    obtain ⟨h2, s4, e⟩ := hI
    subst e
    refine ⟨_, [.fz (eRu cs), .fz (.lst ((rows cs).map ePr)), .fz (.lst ((rows cs).map eWp)), .ow ((b ++ [p]).map ePr), .fz (eWp p)], rfl, ?_, by rw [List.length_append, List.length_singleton]; omega, _, rfl⟩
    unfold bT
    show (sSeq _ _) [.fz (eRu cs), .fz (.lst ((rows cs).map ePr)), .fz (.lst ((rows cs).map eWp)), .ow (b.map ePr), .fz (eWp p)] = _
    have a1 : ((eIsiO "World" (eVar 4)).bind fun b => (EM.ret (D.bl b) : EM D)) [.fz (eRu cs), .fz (.lst ((rows cs).map ePr)), .fz (.lst ((rows cs).map eWp)), .ow (b.map ePr), .fz (eWp p)] = R.ok (D.bl true) [.fz (eRu cs), .fz (.lst ((rows cs).map ePr)), .fz (.lst ((rows cs).map eWp)), .ow (b.map ePr), .fz (eWp p)] := by
      unfold eIsiO
      rw [x_bind, x_bind, x_var]
      show ((EM.opt (isiO "World" (eWp p)) _).bind _) = _
      rw [isiO_W]
      rfl
    rw [w_seq (w_ifnot2 a1), x_app]
    simp only [List.getD_cons_succ, List.getD_cons_zero, x_own1]
    rw [v_cons (v_tup (ds := [eO p.1, eO p.2]) (by
      simp only [x_acons, x_fld, x_var, x_rok, x_bind, List.getD_cons_succ, List.getD_cons_zero, x_anil]
      rfl) (Nat.le_of_ble_eq_true rfl)) v_nil, x_rok]
    show (if (b.map ePr).length < LIM then _ else _) = _
    rw [if_pos (by rw [List.length_map, LIM_eq]; omega), List.map_append]
    rfl)
  have hfold : ∀ (xs b : List (Option Int × Option Int)), xs.foldl (fun b p => b ++ [p]) b = b ++ xs := by
    intro xs
    induction xs with
    | nil => intro b; simp
    | cons x xs ih => intro b; rw [List.foldl_cons, ih]; simp
  rw [hfold, List.nil_append] at e
  have a1 : (sAsg 2 (eCall0 f_frontier (aCons (eVar 0) aNil))) [.fz (eRu cs), .fz (.lst ((rows cs).map ePr)), .no, .no, .no] = .ok .nx [.fz (eRu cs), .fz (.lst ((rows cs).map ePr)), .fz (.lst ((rows cs).map eWp)), .no, .no] := by
    rw [w_asg 2 (v_call (v_cons (v_var 0 rfl) v_nil) hc)]
    rfl
  have a2 : (tOr' (tNot' (((eIsi "list" (eVar 2)).bind fun b => EM.ret (.bl b)).bind toB)) (t2 gEq (eLenV 2) (EM.ret (.int 0)))) [.fz (eRu cs), .fz (.lst ((rows cs).map ePr)), .fz (.lst ((rows cs).map eWp)), .no, .no] = .ok false [.fz (eRu cs), .fz (.lst ((rows cs).map ePr)), .fz (.lst ((rows cs).map eWp)), .no, .no] := by
    have e1 : ((eIsi "list" (eVar 2)).bind fun b => (EM.ret (D.bl b) : EM D)) [.fz (eRu cs), .fz (.lst ((rows cs).map ePr)), .fz (.lst ((rows cs).map eWp)), .no, .no] = R.ok (D.bl true) [.fz (eRu cs), .fz (.lst ((rows cs).map ePr)), .fz (.lst ((rows cs).map eWp)), .no, .no] := by
      rw [x_bind, x_isi, x_var]
      show ((EM.opt (isiD "list" (.lst ((rows cs).map eWp))) _).bind _) = _
      rw [isi_ll]
      rfl
    rw [x_tor, x_tnot, v_test e1]
    show (t2 gEq (eLenV 2) (EM.ret (.int 0))) [.fz (eRu cs), .fz (.lst ((rows cs).map ePr)), .fz (.lst ((rows cs).map eWp)), .no, .no] = _
    simp only [x_t2, x_len, List.getD_cons_succ, List.getD_cons_zero, x_sq1, x_rok, x_bind, x_ret, x_eqI, x_some, decide_eq_false hn]
  show ans ((sSeq _ (sSeq _ (sSeq _ (sSeq (sFor (.nm 4) (iSeq (eVar 2)) bT) _)))) [.fz (eRu cs), .fz (.lst ((rows cs).map ePr)), .no, .no, .no]) = _
  rw [w_seq a1, w_seq (w_if0 a2), w_seq (w_nilO 3 _)]
  show ans ((sSeq _ _) [.fz (eRu cs), .fz (.lst ((rows cs).map ePr)), .fz (.lst ((rows cs).map eWp)), .ow [], .no]) = _
  rw [w_seq (ρ1 := ρ') (by rw [for_var 2 rfl rfl]; exact h), e, x_sret, t_same (f := eVar 3) (g := eVar 1) (ρ1 := [.fz (eRu cs), .fz (.lst ((rows cs).map ePr)), .fz (.lst ((rows cs).map eWp)), .fz (.lst ((rows cs).map ePr)), s4]) (ρ2 := [.fz (eRu cs), .fz (.lst ((rows cs).map ePr)), .fz (.lst ((rows cs).map eWp)), .fz (.lst ((rows cs).map ePr)), s4]) (x := .lst ((rows cs).map ePr)) rfl rfl (same_rows _ hl)]
  rfl
/-! ### greatest -/
theorem forI_same {α : Type} {i j : Nat} {body : EM Fl} {ds0 : List D} (enc : α → D) (I : List Sl → Prop) (hI0 : ∀ ρ, I ρ → ρ.getD j .no = .io ds0) : ∀ (xs : List α) (ρ : List Sl), I ρ → (∀ x ∈ xs, ∀ ρ, I ρ → ∃ ρ2, body (ρ.set i (.fz (enc x))) = .ok .nx ρ2 ∧ I ρ2) → ∃ ρ', I ρ' ∧ forDI (.nm i) j ds0 body (xs.map enc) ρ = .ok .nx ρ'
  | [], ρ, hI, _ => ⟨ρ, hI, by
    rw [List.map_nil]
    unfold forDI
    rw [if_pos (hI0 ρ hI)]⟩
  | x :: xs, ρ, hI, h => by
    obtain ⟨ρ2, e2, h2⟩ := h x (List.mem_cons_self ..) ρ hI
    obtain ⟨ρ', h3, e3⟩ := forI_same enc I hI0 xs ρ2 h2 fun y hy => h y (List.mem_cons_of_mem _ hy)
    refine ⟨ρ', h3, ?_⟩
    rw [List.map_cons]
    unfold forDI
    rw [if_pos (hI0 ρ hI), x_setT1]
    show stepF (body (ρ.set i (.fz (enc x)))) _ = _
    rw [e2]
    exact e3
end Wk

set_option Elab.async false
set_option linter.all false
set_option maxRecDepth 100000
set_option maxHeartbeats 4000000
/-! QM6: greatest; refused. -/
namespace Wk
open PySem DL L2
section
variable {ρ : List Sl} {cs : List (List Tm)} {n m : Nat}
theorem v_safe {f g : EM D} {lag len : Option Int} (h1 : f ρ = .ok (eRu cs) ρ) (h2 : g ρ = .ok (eWo lag len) ρ) (ha : GoodR n m cs) (hm : m ≤ 1000) (hk : keepR cs) : eCall0 f_safe (aCons f (aCons g aNil)) ρ = .ok (.bl (csLe lag len cs owedR)) ρ :=
  v_call (v_cons h1 (v_cons h2 v_nil)) (c_safe cs lag len ha hm hk)
theorem v_world {f g : EM D} {lag len : Option Int} (h1 : f ρ = .ok (eO lag) ρ) (h2 : g ρ = .ok (eO len) ρ) (o1 : okB lag) (o2 : okB len) : eMake "World" f_World___init__ (aCons f (aCons g aNil)) ρ = .ok (eWo lag len) ρ :=
  v_make (v_cons h1 (v_cons h2 v_nil)) (mk_World lag len o1 o2)
theorem v_lag {f : EM D} {p : Option Int × Option Int} (h : f ρ = .ok (eWp p) ρ) : eFld "World" "lag" f ρ = .ok (eO p.1) ρ := by
  rw [x_fld, h]
  rfl
theorem v_length {f : EM D} {p : Option Int × Option Int} (h : f ρ = .ok (eWp p) ρ) : eFld "World" "length" f ρ = .ok (eO p.2) ρ := by
  rw [x_fld, h]
  rfl
end
noncomputable def bG1 : EM Fl := (sSeq (sIf (tNot' ((eCall0 (f__law_same 9) (aCons (eCall0 f_safe (aCons (eVar 0) (aCons (eVar 2) aNil))) (aCons (EM.ret (.bl true)) aNil))).bind toB)) (sRet (EM.ret (.bl false))) sNil) (sSeq (sIf (tAnd' ((eFld "World" "lag" (eVar 2)).bind fun d => EM.ret (!isN d)) (tNot' ((eCall0 (f__law_same 9) (aCons (eCall0 f_safe (aCons (eVar 0) (aCons (eMake "World" f_World___init__ (aCons (eCall0 f__law_next_bound (aCons (eFld "World" "lag" (eVar 2)) aNil)) (aCons (eFld "World" "length" (eVar 2)) aNil))) aNil))) (aCons (EM.ret (.bl false)) aNil))).bind toB))) (sRet (EM.ret (.bl false))) sNil) (sIf (tAnd' ((eFld "World" "length" (eVar 2)).bind fun d => EM.ret (!isN d)) (tNot' ((eCall0 (f__law_same 9) (aCons (eCall0 f_safe (aCons (eVar 0) (aCons (eMake "World" f_World___init__ (aCons (eFld "World" "lag" (eVar 2)) (aCons (eCall0 f__law_next_bound (aCons (eFld "World" "length" (eVar 2)) aNil)) aNil))) aNil))) (aCons (EM.ret (.bl false)) aNil))).bind toB))) (sRet (EM.ret (.bl false))) sNil)))
theorem great_row {n m : Nat} (cs : List (List Tm)) (hg : GoodR n m cs) (hm : m ≤ 1000) (K : Kp cs) (p : Option Int × Option Int) (hp : p ∈ rows cs) (s1 s3 s4 : Sl) : bG1 [.fz (eRu cs), s1, .fz (eWp p), s3, s4] = .ok .nx [.fz (eRu cs), s1, .fz (eWp p), s3, s4] := by
  have ok := rows_ok hp
  have v0 : eVar 0 [.fz (eRu cs), s1, .fz (eWp p), s3, s4] = .ok (eRu cs) [.fz (eRu cs), s1, .fz (eWp p), s3, s4] := rfl
  have v2 : eVar 2 [.fz (eRu cs), s1, .fz (eWp p), s3, s4] = .ok (eWp p) [.fz (eRu cs), s1, .fz (eWp p), s3, s4] := rfl
  generalize hρ : [.fz (eRu cs), s1, .fz (eWp p), s3, s4] = ρ at v0 v2 ⊢
  have l1 := v_lag v2
  have l2 := v_length v2
  have e1 := v_safe (lag := p.1) (len := p.2) v0 v2 hg hm K.k
  rw [row_safe K hp] at e1
  unfold bG1
  rw [w_seq (w_same (g := EM.ret (D.bl true)) e1 rfl (.bl true))]
  have a2 : (tAnd' ((eFld "World" "lag" (eVar 2)).bind fun d => EM.ret (!isN d)) (tNot' ((eCall0 (f__law_same 9) (aCons (eCall0 f_safe (aCons (eVar 0) (aCons (eMake "World" f_World___init__ (aCons (eCall0 f__law_next_bound (aCons (eFld "World" "lag" (eVar 2)) aNil)) (aCons (eFld "World" "length" (eVar 2)) aNil))) aNil))) (aCons (EM.ret (.bl false)) aNil))).bind toB))) ρ = .ok false ρ := by
    rw [x_tand, x_bind, l1]
    cases z : p.1 with
    | none => rfl
    | some x =>
      have okx : okB (some x) := z ▸ ok.1
      rw [z] at l1
      have e3 := v_safe (lag := nextB x) (len := p.2) v0 (v_world (v_call (v_cons l1 v_nil) (c_next x)) l2 (next_ok okx) ok.2) hg hm K.k
      rw [row_lag K hp z] at e3
      have e4 := v_test (t_same (g := EM.ret (D.bl false)) e3 rfl (n := 9) (.bl false))
      show (tNot' _) ρ = _
      rw [x_tnot, e4]
      rfl
  have a3 : (tAnd' ((eFld "World" "length" (eVar 2)).bind fun d => EM.ret (!isN d)) (tNot' ((eCall0 (f__law_same 9) (aCons (eCall0 f_safe (aCons (eVar 0) (aCons (eMake "World" f_World___init__ (aCons (eFld "World" "lag" (eVar 2)) (aCons (eCall0 f__law_next_bound (aCons (eFld "World" "length" (eVar 2)) aNil)) aNil))) aNil))) (aCons (EM.ret (.bl false)) aNil))).bind toB))) ρ = .ok false ρ := by
    rw [x_tand, x_bind, l2]
    cases z : p.2 with
    | none => rfl
    | some x =>
      have okx : okB (some x) := z ▸ ok.2
      rw [z] at l2
      have e3 := v_safe (lag := p.1) (len := nextB x) v0 (v_world l1 (v_call (v_cons l2 v_nil) (c_next x)) ok.1 (next_ok okx)) hg hm K.k
      rw [row_length K hp z] at e3
      have e4 := v_test (t_same (g := EM.ret (D.bl false)) e3 rfl (n := 9) (.bl false))
      show (tNot' _) ρ = _
      rw [x_tnot, e4]
      rfl
  rw [w_seq (w_if0 a2), w_if0 a3]
noncomputable def bG3 : EM Fl := (sIf (tNot' ((eCall0 (f__law_same 9) (aCons (eOwn (pOO "World") false f_World___le__ (eIxV 1 (eVar 3)) (eIxV 1 (eVar 4))) (aCons (e2 (gB gEq) (eVar 3) (eVar 4)) aNil))).bind toB)) (sRet (EM.ret (.bl false))) sNil)
theorem great_pair (cs : List (List Tm)) (K : Kp cs) (k j : Nat) (hk : k < (rows cs).length) (hj : j < (rows cs).length) (s0 s2 : Sl) : bG3 [s0, .io ((rows cs).map eWp), s2, .fz (.int (0 + k)), .fz (.int (0 + j))] = .ok .nx [s0, .io ((rows cs).map eWp), s2, .fz (.int (0 + k)), .fz (.int (0 + j))] := by
  have hat : ∀ i, (hi : i < (rows cs).length) → atI ((rows cs).map eWp) (0 + (i : Int)) = some (eWp (rows cs)[i]) := fun i hi => by
    unfold atI ixN
    simp [hi]
  have e1 : eIxV 1 (eVar 3) [s0, .io ((rows cs).map eWp), s2, .fz (.int (0 + k)), .fz (.int (0 + j))] = .ok (eWp (rows cs)[k]) [s0, .io ((rows cs).map eWp), s2, .fz (.int (0 + k)), .fz (.int (0 + j))] := by
    rw [x_ixv]
    show (EM.opt (atI ((rows cs).map eWp) (0 + (k : Int)))) _ = _
    rw [hat k hk]
    rfl
  have e2' : eIxV 1 (eVar 4) [s0, .io ((rows cs).map eWp), s2, .fz (.int (0 + k)), .fz (.int (0 + j))] = .ok (eWp (rows cs)[j]) [s0, .io ((rows cs).map eWp), s2, .fz (.int (0 + k)), .fz (.int (0 + j))] := by
    rw [x_ixv]
    show (EM.opt (atI ((rows cs).map eWp) (0 + (j : Int)))) _ = _
    rw [hat j hj]
    rfl
  have e3 : (eOwn (pOO "World") false f_World___le__ (eIxV 1 (eVar 3)) (eIxV 1 (eVar 4))) [s0, .io ((rows cs).map eWp), s2, .fz (.int (0 + k)), .fz (.int (0 + j))] = .ok (.bl (decide (k = j))) [s0, .io ((rows cs).map eWp), s2, .fz (.int (0 + k)), .fz (.int (0 + j))] := by
    refine own_OO e1 e2' (pWW _ _ _ _) ?_
    rw [← row_apart K (List.getElem?_eq_getElem hk) (List.getElem?_eq_getElem hj)]
    exact c_World_le _ _ _ _
  have e4 : (e2 (gB gEq) (eVar 3) (eVar 4)) [s0, .io ((rows cs).map eWp), s2, .fz (.int (0 + k)), .fz (.int (0 + j))] = .ok (.bl (decide (k = j))) [s0, .io ((rows cs).map eWp), s2, .fz (.int (0 + k)), .fz (.int (0 + j))] := by
    show R.ok (D.bl (decide ((0 : Int) + (k : Int) = 0 + (j : Int)))) _ = _
    rw [decide_eq_decide.mpr (show (0 + (k : Int) = 0 + (j : Int)) ↔ k = j by omega)]
  have h5 := v_call2 (v_cons2 e3 (v_cons2 e4 v_nil)) (same_0 9 (.bl (decide (k = j))) (.bl _))
  unfold bG3
  rw [x_if, x_tnot, x_bind, h5]
  rfl
theorem w_range {ρ : List Sl} {j : Nat} {xs : List D} (h : sqSl (ρ.getD j .no) = some xs) (hl : xs.length ≤ 100000) : iRg1 (aCons (eLenV j) aNil) ρ = .ok (.rg 0 xs.length) ρ := by
  unfold iRg1
  have e1 : (aCons (eLenV j) aNil) ρ = .ok [.int xs.length] ρ := by
    rw [x_acons, x_len, h]
    rfl
  rw [x_bind, e1, x_rok, rg1 _ hl, x_ret]
theorem f_greatest {n m : Nat} (cs : List (List Tm)) (hg : GoodR n m cs) (hm : m ≤ 1000) (K : Kp cs) : f__law_greatest [.fz (eRu cs), .io ((rows cs).map eWp)] = .ok (.bl true) [.fz (eRu cs), .io ((rows cs).map eWp)] := by
  have hl := rows_len cs
  have hlen : ((rows cs).map eWp).length ≤ 100000 := by rw [List.length_map]; omega
  obtain ⟨ρ1, ⟨s2, e1⟩, h1⟩ := forI_same (i := 2) (j := 1) (body := bG1) (ds0 := (rows cs).map eWp) eWp (fun ρ => ∃ s2, ρ = [.fz (eRu cs), .io ((rows cs).map eWp), s2, .no, .no]) (fun ρ ⟨_, e⟩ => by rw [e]; rfl) (rows cs) [.fz (eRu cs), .io ((rows cs).map eWp), .no, .no, .no] ⟨_, rfl⟩ (fun p hp ρ hI => by
    obtain ⟨s2, e⟩ := hI
    subst e
    exact ⟨_, great_row cs hg hm K p hp (.io ((rows cs).map eWp)) .no .no, _, rfl⟩)
  subst e1
  obtain ⟨ρ2, ⟨s3, s4, e2'⟩, h2⟩ := for_idM (tg := .nm 3) (body := sFor (.nm 4) (iRg1 (aCons (eLenV 1) aNil)) bG3) (fun k : Nat => D.int (0 + k)) (fun ρ => ∃ s3 s4, ρ = [.fz (eRu cs), .io ((rows cs).map eWp), s2, s3, s4]) (List.range (rows cs).length) [.fz (eRu cs), .io ((rows cs).map eWp), s2, .no, .no] ⟨_, _, rfl⟩ (fun k hk ρ hI => by
    obtain ⟨s3, s4, e⟩ := hI
    subst e
    have hk := List.mem_range.mp hk
    obtain ⟨ρ', ⟨s4', e⟩, h⟩ := for_idM (tg := .nm 4) (body := bG3) (fun k : Nat => D.int (0 + k)) (fun ρ => ∃ s4, ρ = [.fz (eRu cs), .io ((rows cs).map eWp), s2, .fz (.int (0 + k)), s4]) (List.range (rows cs).length) [.fz (eRu cs), .io ((rows cs).map eWp), s2, .fz (.int (0 + k)), s4] ⟨_, rfl⟩ (fun j hj ρ hI => by
      obtain ⟨s4, e⟩ := hI
      subst e
      exact ⟨_, _, rfl, great_pair cs K k j hk (List.mem_range.mp hj) (.fz (eRu cs)) s2, _, rfl⟩)
    subst e
    refine ⟨_, [.fz (eRu cs), .io ((rows cs).map eWp), s2, .fz (.int (0 + k)), s4'], rfl, ?_, .fz (.int (0 + k)), s4', rfl⟩
    show sFor (.nm 4) (iRg1 (aCons (eLenV 1) aNil)) bG3 [.fz (eRu cs), .io ((rows cs).map eWp), s2, .fz (.int (0 + k)), s4] = _
    rw [for_src (w_range (j := 1) (xs := (rows cs).map eWp) rfl hlen) trivial, List.length_map]
    exact h)
  subst e2'
  have hb : b__law_greatest [.fz (eRu cs), .io ((rows cs).map eWp), .no, .no, .no] = .ok (.rt (.bl true)) [.fz (eRu cs), .io ((rows cs).map eWp), s2, s3, s4] := by
    unfold b__law_greatest
    show (sSeq (sForI (.nm 2) 1 bG1) (sSeq (sFor (.nm 3) (iRg1 (aCons (eLenV 1) aNil)) (sFor (.nm 4) (iRg1 (aCons (eLenV 1) aNil)) bG3)) (sRet (EM.ret (.bl true))))) [.fz (eRu cs), .io ((rows cs).map eWp), .no, .no, .no] = _
    rw [w_seq (s := sForI (.nm 2) 1 bG1) (ρ := [.fz (eRu cs), .io ((rows cs).map eWp), .no, .no, .no]) (ρ1 := [.fz (eRu cs), .io ((rows cs).map eWp), s2, .no, .no]) h1, w_seq (ρ1 := [.fz (eRu cs), .io ((rows cs).map eWp), s2, s3, s4]) (by
      rw [for_src (w_range (j := 1) (xs := (rows cs).map eWp) rfl hlen) trivial, List.length_map]
      exact h2)]
    rfl
  unfold f__law_greatest fOf
  rw [if_pos (show [Sl.fz (eRu cs), .io ((rows cs).map eWp)].length = 2 from rfl)]
  show (match b__law_greatest [.fz (eRu cs), .io ((rows cs).map eWp), .no, .no, .no] with
    | .ok (.rt d) ρ' => (match mergeA ρ' 0 [.fz (eRu cs), .io ((rows cs).map eWp)] with
      | some as' => R.ok d as'
      | none => R.bad)
    | .ok .nx ρ' => (match mergeA ρ' 0 [.fz (eRu cs), .io ((rows cs).map eWp)] with
      | some as' => R.ok D.non as'
      | none => R.bad)
    | .ex c ns ds ρ' => (match mergeA ρ' 0 [.fz (eRu cs), .io ((rows cs).map eWp)] with
      | some as' => R.ex c ns ds as'
      | none => R.bad)
    | _ => R.bad) = _
  rw [hb]
  rfl
theorem i2_go {j : Nat} {fs fa : EM D} {d0 d : D} {xs ys : List D} {s0 : Sl} {as' ρ : List Sl} (hj : ownL (ρ.getD j .no) = some xs) (ha : fa ρ = .ok d0 ρ) (h : fs [.fz d0, .io xs] = .ok d (s0 :: .io ys :: as')) : eCallI2 j fs fa ρ = .ok d (ρ.set j (reL (ρ.getD j .no) ys)) := by
  unfold eCallI2
  rw [x_bind, ha, x_rok]
  unfold ioRes2
  rw [hj]
  dsimp only
  rw [h]
/-! ### refused -/
def bad (w : Mk) : Prop := w = .own ∨ w = .got
theorem x_check (ms : List Mk) (w : Mk) (hw : bad w) (h : ms = [w] ∨ ms = [.done, w]) : f_x_check_allowed [.fz (.tup (ms.map fun m : Mk => .str m.s)), .fz (.tup (t_KEEP_MARKS.map .str))] = .ex "WrongMark" ["mark"] [.str w.s] [.fz (.tup (ms.map fun m : Mk => .str m.s)), .fz (.tup (t_KEEP_MARKS.map .str))] := by
  have hb : ∃ s, b_x_check_allowed [.fz (.tup (ms.map fun m : Mk => .str m.s)), .fz (.tup (t_KEEP_MARKS.map .str)), .no] = .ex "WrongMark" ["mark"] [.str w.s] [.fz (.tup (ms.map fun m : Mk => .str m.s)), .fz (.tup (t_KEEP_MARKS.map .str)), s] := by
    unfold b_x_check_allowed
    rw [for_var 0 rfl rfl]
    rcases hw with e | e <;> subst e <;> rcases h with h | h <;> subst h <;> exact ⟨_, rfl⟩
  obtain ⟨s, hb⟩ := hb
  unfold f_x_check_allowed fOf
  rw [if_pos (show [Sl.fz (.tup (ms.map fun m : Mk => .str m.s)), .fz (.tup (t_KEEP_MARKS.map .str))].length = 2 from rfl)]
  show (match b_x_check_allowed [.fz (.tup (ms.map fun m : Mk => .str m.s)), .fz (.tup (t_KEEP_MARKS.map .str)), .no] with
    | .ok (.rt d) ρ' => (match mergeA ρ' 0 [.fz (.tup (ms.map fun m : Mk => .str m.s)), .fz (.tup (t_KEEP_MARKS.map .str))] with
      | some as' => R.ok d as'
      | none => R.bad)
    | .ok .nx ρ' => (match mergeA ρ' 0 [.fz (.tup (ms.map fun m : Mk => .str m.s)), .fz (.tup (t_KEEP_MARKS.map .str))] with
      | some as' => R.ok D.non as'
      | none => R.bad)
    | .ex c ns ds ρ' => (match mergeA ρ' 0 [.fz (.tup (ms.map fun m : Mk => .str m.s)), .fz (.tup (t_KEEP_MARKS.map .str))] with
      | some as' => R.ex c ns ds as'
      | none => R.bad)
    | _ => R.bad) = _
  rw [hb]
  rfl
theorem x_front (cs : List (List Tm)) (w : Mk) (hw : bad w) (h : rMarks cs = [w] ∨ rMarks cs = [.done, w]) : f_x_frontier [.fz (eRu cs)] = .ex "WrongMark" ["mark"] [.str w.s] [.fz (eRu cs)] := by
  have hc := x_check (rMarks cs) w hw h
  have hb : b_x_frontier [.fz (eRu cs), .no, .no, .no, .no] = .ex "WrongMark" ["mark"] [.str w.s] [.fz (eRu cs), .no, .no, .no, .no] := by
    unfold b_x_frontier
    have e : (sDrop (eCall f_x_check_allowed (aCons (eFld "Rule" "marks" (eVar 0)) (aCons (EM.ret (.tup (t_KEEP_MARKS.map .str))) aNil)))) [.fz (eRu cs), .no, .no, .no, .no] = .ex "WrongMark" ["mark"] [.str w.s] [.fz (eRu cs), .no, .no, .no, .no] := by
      rw [x_drop]
      unfold eCall
      have ea : (aCons (eFld "Rule" "marks" (eVar 0)) (aCons (EM.ret (.tup (t_KEEP_MARKS.map .str))) aNil)) [.fz (eRu cs), .no, .no, .no, .no] = .ok [.tup ((rMarks cs).map fun m : Mk => .str m.s), .tup (t_KEEP_MARKS.map .str)] [.fz (eRu cs), .no, .no, .no, .no] := by
        simp only [x_acons, x_fld, x_var, x_rok, x_bind, List.getD_cons_zero, fld_R2, x_some, x_ret, x_anil]
      rw [x_bind, ea, x_rok]
      show R.bind (callRes f_x_check_allowed [.tup ((rMarks cs).map fun m : Mk => .str m.s), .tup (t_KEEP_MARKS.map .str)] _) _ = _
      unfold callRes
      rw [show (([.tup ((rMarks cs).map fun m : Mk => .str m.s), .tup (t_KEEP_MARKS.map .str)] : List D).map Sl.fz) = [.fz (.tup ((rMarks cs).map fun m : Mk => .str m.s)), .fz (.tup (t_KEEP_MARKS.map .str))] from rfl, hc]
      rfl
    rw [x_seq, e]
  unfold f_x_frontier fOf
  rw [if_pos (show [Sl.fz (eRu cs)].length = 1 from rfl)]
  show (match b_x_frontier [.fz (eRu cs), .no, .no, .no, .no] with
    | .ok (.rt d) ρ' => (match mergeA ρ' 0 [.fz (eRu cs)] with
      | some as' => R.ok d as'
      | none => R.bad)
    | .ok .nx ρ' => (match mergeA ρ' 0 [.fz (eRu cs)] with
      | some as' => R.ok D.non as'
      | none => R.bad)
    | .ex c ns ds ρ' => (match mergeA ρ' 0 [.fz (eRu cs)] with
      | some as' => R.ex c ns ds as'
      | none => R.bad)
    | _ => R.bad) = _
  rw [hb]
  rfl
theorem c_refused (cs : List (List Tm)) (w : Mk) (hw : bad w) (h : rMarks cs = [w] ∨ rMarks cs = [.done, w]) : callRes0 f__law_refused [eRu cs] = EM.ret (.lst [.str w.s, .bl true]) := by
  apply callF (by rfl)
  unfold b__law_refused
  have e : sDrop (eCall f_x_frontier (aCons (eVar 0) aNil)) [.fz (eRu cs), .no] = .ex "WrongMark" ["mark"] [.str w.s] [.fz (eRu cs), .no] := by
    rw [x_drop]
    unfold eCall
    rw [x_bind, v_cons (f := eVar 0) (v_var 0 rfl) v_nil, x_rok]
    show R.bind (callRes f_x_frontier [eRu cs] _) _ = _
    unfold callRes
    rw [show (([eRu cs] : List D).map Sl.fz) = [.fz (eRu cs)] from rfl, x_front cs w hw h]
    rfl
  have e2 : sTryL 1 "WrongMark" [.fld "mark", .bl true] (sDrop (eCall f_x_frontier (aCons (eVar 0) aNil))) [.fz (eRu cs), .no] = .ok (.rt (.lst [.str w.s, .bl true])) [.fz (eRu cs), .no] := by
    unfold sTryL
    rw [e]
    show (if ("WrongMark" : Str) = "WrongMark" ∧ (["mark"] : List Str) ≠ [] ∧ 1 < [Sl.fz (eRu cs), .no].length then _ else _) = _
    rw [if_pos ⟨rfl, by simp, Nat.le_of_ble_eq_true rfl⟩]
    rfl
  show ans ((sSeq _ _) [.fz (eRu cs), .no]) = _
  rw [x_seq, e2]
  rfl
end Wk

set_option Elab.async false
set_option linter.all false
set_option maxRecDepth 100000
set_option maxHeartbeats 4000000
/-! QM7: the law. -/
namespace Wk
open PySem DL L2
theorem v_pick {f g : EM D} {ρ ρ1 : List Sl} {xs : List D} {d : Int} {x : D} (h1 : f ρ = .ok (.lst xs) ρ) (h2 : g ρ = .ok (.int d) ρ1) (h3 : atI xs d = some x) : e2 gIx f g ρ = .ok x ρ1 := by
  rw [x_e2, h1, x_rok, x_bind, h2, x_rok, x_gix1, h3]
  rfl
theorem marks_two (a b : Int) (w : Mk) (hw : bad w) : rMarks (normR [[(.done, a), (w, b)]]) = [.done, w] := by
  rcases hw with e | e <;> subst e <;> rfl
theorem marks_one (w : Mk) (b : Int) (hw : bad w) : rMarks (normR [[(w, b)]]) = [w] := by
  rcases hw with e | e <;> subst e <;> rfl
theorem good_two (w : Mk) (a b : Int) (a0 : 0 ≤ a) (a1 : a ≤ 99) (b0 : 0 ≤ b) (b1 : b ≤ 99) : GoodR 1 2 [[(.done, a), (w, b)]] := ⟨by simp, fun c hc => by
  rw [List.mem_singleton.mp hc]
  refine ⟨by simp, fun t ht => ?_⟩
  rcases List.mem_cons.mp ht with e | e
  · rw [e]; exact ⟨a0, a1⟩
  · rw [List.mem_singleton.mp e]; exact ⟨b0, b1⟩, by simp, fun c hc => by rw [List.mem_singleton.mp hc]; simp⟩
def two : List Mk := [.done, .end_]
theorem good4 {ms : List Mk} {deep : Int} {cs : List (List Tm)} (hd : deep ≤ 99) (h1 : cs ≠ []) (h2 : (cs.length : Int) ≤ 4) (h3 : ∀ c ∈ cs, dC ms deep c) : GoodR 4 3 cs :=
  ⟨h1, fun c hc => ⟨(h3 c hc).1, fun t ht => ⟨((h3 c hc).2.2 t ht).2.1, Int.le_trans ((h3 c hc).2.2 t ht).2.2 hd⟩⟩, by omega, fun c hc => (h3 c hc).2.1⟩
theorem kp_of {n m : Nat} {cs : List (List Tm)} (g : GoodR n m cs) (k : keepR cs) : Kp cs := ⟨k, fun c hc => (g.ok c hc).1, fun c hc t ht => ((g.ok c hc).2 t ht).1⟩
theorem foo_go {fs : FO} {fa : EM (List D)} {ds xs : List D} {ρ ρ1 ρ' : List Sl} (ha : fa ρ = .ok ds ρ1) (h : fs ds = .ok xs ρ') : eCallOO fs fa ρ = .ok xs ρ1 := by
  unfold eCallOO
  rw [x_bind, ha, x_rok]
  unfold callOO
  rw [h]

noncomputable def bW : EM Fl := (sSeq (sAsg 8 (eCallIO 1 f__law_bound (aCons (EM.ret (.int 49)) aNil))) (sSeq (sAsg 9 (eCallIO 1 f__law_bound (aCons (EM.ret (.int 49)) aNil))) (sSeq (sAsg 10 (eMake "World" f_World___init__ (aCons (eVar 8) (aCons (eVar 9) aNil)))) (sSeq (sAsgO 11 (oComp (.nm 12) ((eOwn (pOO "World") false f_World___le__ (eVar 10) (eVar 12)).bind toB) (eVar 12) [12] (iVar 6))) (sSeq (sAsg 13 (eCall0 f__law_rule_below (aCons (eVar 3) (aCons (eFz (oLst (aCons (eFz (oLst (aCons (eTup (aCons (EM.ret (.str "owed")) (aCons (EM.ret (.int 0)) aNil))) aNil))) aNil))) (aCons (eVar 8) (aCons (eVar 9) aNil)))))) (sIf (tNot' ((eCall0 (f__law_same 9) (aCons (eFz (oLst (aCons (e2 (gB gGt) (eLenV 11) (EM.ret (.int 0))) (aCons (eCall0 f_safe (aCons (eVar 4) (aCons (eVar 10) aNil))) aNil)))) (aCons (eFz (oLst (aCons (eVar 13) (aCons (eVar 13) aNil)))) aNil))).bind toB)) (sRet (EM.ret (.bl false))) sNil))))))
theorem turn (cs : List (List Tm)) (hg : GoodR 4 3 cs) (hk : keepR cs) (z a2 a5 s7 s8 s9 s10 s11 s13 : Sl) (s : Dr) : ∃ (s' : Dr) (t8 t9 t10 t11 t13 : Sl), bW [z, .ow s.l, a2, .fz (.lst (cs.map eLc)), .fz (eRu (normR cs)), a5, .ow ((rows (normR cs)).map eWp), s7, s8, s9, s10, s11, .no, s13, .no, .no] = .ok .nx [z, .ow s'.l, a2, .fz (.lst (cs.map eLc)), .fz (eRu (normR cs)), a5, .ow ((rows (normR cs)).map eWp), s7, t8, t9, t10, t11, .no, t13, .no, .no] := by
  have gn := normR_good hg
  have kn : keepR (normR cs) := keep_norm hk
  have K := kp_of gn kn
  have hl := rows_len (normR cs)
  obtain ⟨late, s1, o1, q1⟩ := bound_ow (s := s) (r0 := z) (r := [a2, .fz (.lst (cs.map eLc)), .fz (eRu (normR cs)), a5, .ow ((rows (normR cs)).map eWp), s7, s8, s9, s10, s11, .no, s13, .no, .no]) (fa := aCons (EM.ret (.int 49)) aNil) 49 (by omega) (by omega) rfl
  obtain ⟨far, s2, o2, q2⟩ := bound_ow (s := s1) (r0 := z) (r := [a2, .fz (.lst (cs.map eLc)), .fz (eRu (normR cs)), a5, .ow ((rows (normR cs)).map eWp), s7, .fz (eO late), s9, s10, s11, .no, s13, .no, .no]) (fa := aCons (EM.ret (.int 49)) aNil) 49 (by omega) (by omega) rfl
  have hsafe : csLe late far (normR cs) owedR = csLe late far cs owedR := by
    have e := normR_rEq cs
    rw [Bool.eq_iff_iff]
    exact ⟨safe_anti o1 o2 e.2, safe_anti o1 o2 e.1⟩
  have a1 : (sAsg 8 (eCallIO 1 f__law_bound (aCons (EM.ret (.int 49)) aNil))) [z, .ow s.l, a2, .fz (.lst (cs.map eLc)), .fz (eRu (normR cs)), a5, .ow ((rows (normR cs)).map eWp), s7, s8, s9, s10, s11, .no, s13, .no, .no] = .ok .nx [z, .ow s1.l, a2, .fz (.lst (cs.map eLc)), .fz (eRu (normR cs)), a5, .ow ((rows (normR cs)).map eWp), s7, .fz (eO late), s9, s10, s11, .no, s13, .no, .no] := w_asg2 8 q1
  have b2 : (sAsg 9 (eCallIO 1 f__law_bound (aCons (EM.ret (.int 49)) aNil))) [z, .ow s1.l, a2, .fz (.lst (cs.map eLc)), .fz (eRu (normR cs)), a5, .ow ((rows (normR cs)).map eWp), s7, .fz (eO late), s9, s10, s11, .no, s13, .no, .no] = .ok .nx [z, .ow s2.l, a2, .fz (.lst (cs.map eLc)), .fz (eRu (normR cs)), a5, .ow ((rows (normR cs)).map eWp), s7, .fz (eO late), .fz (eO far), s10, s11, .no, s13, .no, .no] := w_asg2 9 q2
  have b3 : (sAsg 10 (eMake "World" f_World___init__ (aCons (eVar 8) (aCons (eVar 9) aNil)))) [z, .ow s2.l, a2, .fz (.lst (cs.map eLc)), .fz (eRu (normR cs)), a5, .ow ((rows (normR cs)).map eWp), s7, .fz (eO late), .fz (eO far), s10, s11, .no, s13, .no, .no] = .ok .nx [z, .ow s2.l, a2, .fz (.lst (cs.map eLc)), .fz (eRu (normR cs)), a5, .ow ((rows (normR cs)).map eWp), s7, .fz (eO late), .fz (eO far), .fz (eWo late far), s11, .no, s13, .no, .no] := w_asg 10 (v_world (v_var 8 rfl) (v_var 9 rfl) o1 o2)
  have hc := oComp_pure0 (tg := .nm 12) (c := (eOwn (pOO "World") false f_World___le__ (eVar 10) (eVar 12)).bind toB) (elt := eVar 12) (vs := [12]) (src := iVar 6) (S := .sl 6 ((rows (normR cs)).map eWp)) (ρ := [z, .ow s2.l, a2, .fz (.lst (cs.map eLc)), .fz (eRu (normR cs)), a5, .ow ((rows (normR cs)).map eWp), s7, .fz (eO late), .fz (eO far), .fz (eWo late far), s11, .no, s13, .no, .no]) [z, .ow s2.l, a2, .fz (.lst (cs.map eLc)), .fz (eRu (normR cs)), a5, .ow ((rows (normR cs)).map eWp), s7, .fz (eO late), .fz (eO far), .fz (eWo late far), s11, .no, s13, .no, .no] eWp (fun q => bLe late q.1 && bLe far q.2) eWp (rows (normR cs)) rfl rfl rfl (.inl rfl) rfl (by rw [LIM_eq]; omega)
    fun q _ => ⟨[z, .ow s2.l, a2, .fz (.lst (cs.map eLc)), .fz (eRu (normR cs)), a5, .ow ((rows (normR cs)).map eWp), s7, .fz (eO late), .fz (eO far), .fz (eWo late far), s11, .fz (eWp q), s13, .no, .no], rfl, v_test (own_OO (x := eWo late far) (y := eWp q) rfl rfl (pWW _ _ _ _) (c_World_le _ _ _ _)), fun _ => rfl, rfl⟩
  have b4 : (sAsgO 11 (oComp (.nm 12) ((eOwn (pOO "World") false f_World___le__ (eVar 10) (eVar 12)).bind toB) (eVar 12) [12] (iVar 6))) [z, .ow s2.l, a2, .fz (.lst (cs.map eLc)), .fz (eRu (normR cs)), a5, .ow ((rows (normR cs)).map eWp), s7, .fz (eO late), .fz (eO far), .fz (eWo late far), s11, .no, s13, .no, .no] = .ok .nx [z, .ow s2.l, a2, .fz (.lst (cs.map eLc)), .fz (eRu (normR cs)), a5, .ow ((rows (normR cs)).map eWp), s7, .fz (eO late), .fz (eO far), .fz (eWo late far), .ow ((rows (normR cs)).filter (fun q => bLe late q.1 && bLe far q.2) |>.map eWp), .no, s13, .no, .no] := w_asgO 11 hc
  have hr := c_lrule late far cs [[(.owed, 0)]] (fun c hc => by have := hg.cl c hc; omega) (by decide)
  rw [← owedR_eq] at hr
  have b5 : (sAsg 13 (eCall0 f__law_rule_below (aCons (eVar 3) (aCons (eFz (oLst (aCons (eFz (oLst (aCons (eTup (aCons (EM.ret (.str "owed")) (aCons (EM.ret (.int 0)) aNil))) aNil))) aNil))) (aCons (eVar 8) (aCons (eVar 9) aNil)))))) [z, .ow s2.l, a2, .fz (.lst (cs.map eLc)), .fz (eRu (normR cs)), a5, .ow ((rows (normR cs)).map eWp), s7, .fz (eO late), .fz (eO far), .fz (eWo late far), .ow ((rows (normR cs)).filter (fun q => bLe late q.1 && bLe far q.2) |>.map eWp), .no, s13, .no, .no] = .ok .nx [z, .ow s2.l, a2, .fz (.lst (cs.map eLc)), .fz (eRu (normR cs)), a5, .ow ((rows (normR cs)).map eWp), s7, .fz (eO late), .fz (eO far), .fz (eWo late far), .ow ((rows (normR cs)).filter (fun q => bLe late q.1 && bLe far q.2) |>.map eWp), .no, .fz (.bl (csLe late far cs owedR)), .no, .no] :=
    w_asg 13 (v_call (v_cons (v_var 3 rfl) (v_cons (v_fz (v_cons (v_fz (v_cons (v_tup (v_cons (x_ret _ (D.str "owed")) (v_cons (x_ret _ (D.int 0)) v_nil)) (Nat.le_of_ble_eq_true rfl)) v_nil) (Nat.le_of_ble_eq_true rfl)) v_nil) (Nat.le_of_ble_eq_true rfl)) (v_cons (v_var 8 rfl) (v_cons (v_var 9 rfl) v_nil)))) hr)
  have hany : decide ((0 : Int) < (((rows (normR cs)).filter (fun q => bLe late q.1 && bLe far q.2) |>.map eWp).length : Int)) = csLe late far cs owedR := by
    rw [← hsafe, ← rows_below K o1 o2, List.length_map]
    have hz := fil_any (fun q : Option Int × Option Int => bLe late q.1 && bLe far q.2) (rows (normR cs))
    cases y : (rows (normR cs)).any (fun q => bLe late q.1 && bLe far q.2) with
    | false => rw [hz.mpr y]; rfl
    | true =>
      have : ((rows (normR cs)).filter (fun q => bLe late q.1 && bLe far q.2)).length ≠ 0 := fun q => by
        rw [hz.mp q] at y
        cases y
      exact decide_eq_true (by omega)
  have b6 : (e2 (gB gGt) (eLenV 11) (EM.ret (.int 0))) [z, .ow s2.l, a2, .fz (.lst (cs.map eLc)), .fz (eRu (normR cs)), a5, .ow ((rows (normR cs)).map eWp), s7, .fz (eO late), .fz (eO far), .fz (eWo late far), .ow ((rows (normR cs)).filter (fun q => bLe late q.1 && bLe far q.2) |>.map eWp), .no, .fz (.bl (csLe late far cs owedR)), .no, .no] = .ok (.bl (csLe late far cs owedR)) [z, .ow s2.l, a2, .fz (.lst (cs.map eLc)), .fz (eRu (normR cs)), a5, .ow ((rows (normR cs)).map eWp), s7, .fz (eO late), .fz (eO far), .fz (eWo late far), .ow ((rows (normR cs)).filter (fun q => bLe late q.1 && bLe far q.2) |>.map eWp), .no, .fz (.bl (csLe late far cs owedR)), .no, .no] := by
    rw [← hany]
    rfl
  have b7 := v_safe (ρ := [z, .ow s2.l, a2, .fz (.lst (cs.map eLc)), .fz (eRu (normR cs)), a5, .ow ((rows (normR cs)).map eWp), s7, .fz (eO late), .fz (eO far), .fz (eWo late far), .ow ((rows (normR cs)).filter (fun q => bLe late q.1 && bLe far q.2) |>.map eWp), .no, .fz (.bl (csLe late far cs owedR)), .no, .no]) (lag := late) (len := far) (f := eVar 4) (g := eVar 10) rfl rfl gn (by decide) kn
  rw [hsafe] at b7
  have b8 : (sIf (tNot' ((eCall0 (f__law_same 9) (aCons (eFz (oLst (aCons (e2 (gB gGt) (eLenV 11) (EM.ret (.int 0))) (aCons (eCall0 f_safe (aCons (eVar 4) (aCons (eVar 10) aNil))) aNil)))) (aCons (eFz (oLst (aCons (eVar 13) (aCons (eVar 13) aNil)))) aNil))).bind toB)) (sRet (EM.ret (.bl false))) sNil) [z, .ow s2.l, a2, .fz (.lst (cs.map eLc)), .fz (eRu (normR cs)), a5, .ow ((rows (normR cs)).map eWp), s7, .fz (eO late), .fz (eO far), .fz (eWo late far), .ow ((rows (normR cs)).filter (fun q => bLe late q.1 && bLe far q.2) |>.map eWp), .no, .fz (.bl (csLe late far cs owedR)), .no, .no] = .ok .nx [z, .ow s2.l, a2, .fz (.lst (cs.map eLc)), .fz (eRu (normR cs)), a5, .ow ((rows (normR cs)).map eWp), s7, .fz (eO late), .fz (eO far), .fz (eWo late far), .ow ((rows (normR cs)).filter (fun q => bLe late q.1 && bLe far q.2) |>.map eWp), .no, .fz (.bl (csLe late far cs owedR)), .no, .no] :=
    w_same (n := 9) (v_fz (v_cons b6 (v_cons b7 v_nil)) (Nat.le_of_ble_eq_true rfl)) (v_fz (v_cons (v_var 13 rfl) (v_cons (v_var 13 rfl) v_nil)) (Nat.le_of_ble_eq_true rfl)) (same_bls 7 [csLe late far cs owedR, csLe late far cs owedR] (by simp))
  refine ⟨s2, .fz (eO late), .fz (eO far), .fz (eWo late far), .ow ((rows (normR cs)).filter (fun q => bLe late q.1 && bLe far q.2) |>.map eWp), .fz (.bl (csLe late far cs owedR)), ?_⟩
  unfold bW
  rw [w_seq a1, w_seq b2, w_seq b3, w_seq b4, w_seq b5]
  exact b8

theorem v_fz2 {fa : EM (List D)} {ρ ρ1 : List Sl} {ds : List D} (h : fa ρ = .ok ds ρ1) (hl : ds.length ≤ 1000) : eFz (oLst fa) ρ = .ok (.lst ds) ρ1 := by
  rw [x_efz, v_lst2 h hl]
  rfl
theorem law_ok (ns : List Int) (hn : ns.length ≤ 63) : ∃ as', f_law [.fz (.rd (ns.map .int))] = .ok (.bl true) as' := by
  refine ⟨_, ofF (n := 1) (N := 16) (ds := [.rd (ns.map .int)]) (b := b_law) rfl ?_⟩
  unfold b_law
  show ans (sSeq _ _ [.fz (.rd (ns.map .int)), .no, .no, .no, .no, .no, .no, .no, .no, .no, .no, .no, .no, .no, .no, .no]) = _
  have e1 : eCallOO f__law_start (aCons (eVar 0) aNil) [.fz (.rd (ns.map .int)), .no, .no, .no, .no, .no, .no, .no, .no, .no, .no, .no, .no, .no, .no, .no] = .ok (s0 ns).l [.fz (.rd (ns.map .int)), .no, .no, .no, .no, .no, .no, .no, .no, .no, .no, .no, .no, .no, .no, .no] := rfl
  rw [w_seq (w_asgO 1 e1)]
  show ans (sSeq _ _ [.fz (.rd (ns.map .int)), .ow (s0 ns).l, .no, .no, .no, .no, .no, .no, .no, .no, .no, .no, .no, .no, .no, .no]) = _
  rw [w_seq (w_asgO 2 (v_lst (v_cons (x_ret _ (D.str "done")) (v_cons (x_ret _ (D.str "end")) v_nil)) (Nat.le_of_ble_eq_true rfl)))]
  show ans (sSeq _ _ [.fz (.rd (ns.map .int)), .ow (s0 ns).l, .ow (two.map eM), .no, .no, .no, .no, .no, .no, .no, .no, .no, .no, .no, .no, .no]) = _
  obtain ⟨d1, s1, q1, lo1, hi1⟩ := draw_ow (fa := aCons (EM.ret (.int 4)) aNil) (s := (s0 ns)) (r0 := .fz (.rd (ns.map .int))) (r := [.ow (two.map eM), .no, .no, .no, .no, .no, .no, .no, .no, .no, .no, .no, .no, .no]) (L := 4) rfl (by omega) (by omega)
  have h3 : ∃ ms : List Mk, ms ≠ [] ∧ ms.length ≤ 100 ∧ (∀ m ∈ ms, keep m) ∧ (sIf (t2 gEq (eCallIO 1 f__law_draw (aCons (EM.ret (.int 4)) aNil)) (EM.ret (.int 3))) (sAsgO 2 (oLst (aCons (EM.ret (.str "zero")) (aCons (EM.ret (.str "calm")) (aCons (EM.ret (.str "owed")) (aCons (EM.ret (.str "done")) (aCons (EM.ret (.str "end")) aNil))))))) sNil) [.fz (.rd (ns.map .int)), .ow (s0 ns).l, .ow (two.map eM), .no, .no, .no, .no, .no, .no, .no, .no, .no, .no, .no, .no, .no] = .ok .nx [.fz (.rd (ns.map .int)), .ow s1.l, .ow (ms.map eM), .no, .no, .no, .no, .no, .no, .no, .no, .no, .no, .no, .no, .no] := by
    by_cases z : d1 = 3
    · refine ⟨five, by decide, by decide, five_keep, ?_⟩
      rw [x_if, x_t2, q1, x_rok, x_bind, x_ret, x_rok, x_eqI, decide_eq_true z, x_some, x_rok, if_pos rfl]
      show (sAsgO 2 _) [.fz (.rd (ns.map .int)), .ow s1.l, .ow (two.map eM), .no, .no, .no, .no, .no, .no, .no, .no, .no, .no, .no, .no, .no] = _
      rw [w_asgO 2 (v_lst (v_cons (x_ret _ (D.str "zero")) (v_cons (x_ret _ (D.str "calm")) (v_cons (x_ret _ (D.str "owed")) (v_cons (x_ret _ (D.str "done")) (v_cons (x_ret _ (D.str "end")) v_nil))))) (Nat.le_of_ble_eq_true rfl))]
      rfl
    · refine ⟨two, by decide, by decide, fun m hm => five_keep m (by
        simp only [two, List.mem_cons, List.not_mem_nil, or_false] at hm
        rcases hm with e | e <;> subst e <;> decide), ?_⟩
      rw [x_if, x_t2, q1, x_rok, x_bind, x_ret, x_rok, x_eqI, decide_eq_false z]
      rfl
  obtain ⟨ms, m1, m2, m3, q3⟩ := h3
  rw [w_seq q3]
  show ans (sSeq _ _ [.fz (.rd (ns.map .int)), .ow s1.l, .ow (ms.map eM), .no, .no, .no, .no, .no, .no, .no, .no, .no, .no, .no, .no, .no]) = _
  obtain ⟨d2, s2, q2, lo2, hi2⟩ := draw_ow (fa := aCons (EM.ret (.int 3)) aNil) (s := s1) (r0 := .fz (.rd (ns.map .int))) (r := [.fz (mD ms), .no, .no, .no, .no, .no, .no, .no, .no, .no, .no, .no, .no, .no]) (L := 3) rfl (by omega) (by omega)
  obtain ⟨deep, hdp, p3⟩ := pick_mem D.int [12, 60, 99] d2 lo2 hi2
  have hd : 0 ≤ deep ∧ deep ≤ 99 := by
    simp only [List.mem_cons, List.not_mem_nil, or_false] at hdp
    omega
  obtain ⟨cs, s3, g1, g2, g3, qc⟩ := f_clauses ms m1 m2 4 deep (by omega) (by omega) hd.1 (by omega) s2
  have ha : (aCons (eVar 2) (aCons (EM.ret (.int 4)) (aCons (e2 gIx (eFz (oLst (aCons (EM.ret (.int 12)) (aCons (EM.ret (.int 60)) (aCons (EM.ret (.int 99)) aNil))))) (eCallIO 1 f__law_draw (aCons (EM.ret (.int 3)) aNil))) aNil))) [.fz (.rd (ns.map .int)), .ow s1.l, .ow (ms.map eM), .no, .no, .no, .no, .no, .no, .no, .no, .no, .no, .no, .no, .no] = .ok [mD ms, .int 4, .int deep] [.fz (.rd (ns.map .int)), .ow s2.l, .fz (mD ms), .no, .no, .no, .no, .no, .no, .no, .no, .no, .no, .no, .no, .no] :=
    v_cons2 (ρ1 := [.fz (.rd (ns.map .int)), .ow s1.l, .fz (mD ms), .no, .no, .no, .no, .no, .no, .no, .no, .no, .no, .no, .no, .no]) rfl (v_cons2 (ρ1 := [.fz (.rd (ns.map .int)), .ow s1.l, .fz (mD ms), .no, .no, .no, .no, .no, .no, .no, .no, .no, .no, .no, .no, .no]) rfl (v_cons2 (v_pick (v_fz (v_cons (x_ret _ (D.int 12)) (v_cons (x_ret _ (D.int 60)) (v_cons (x_ret _ (D.int 99)) v_nil))) (Nat.le_of_ble_eq_true rfl)) q2 p3) v_nil))
  rw [w_seq (w_asg2 3 (io_go2 (j := 1) rfl ha rfl qc))]
  show ans (sSeq _ _ [.fz (.rd (ns.map .int)), .ow s3.l, .fz (mD ms), .fz (.lst (cs.map eLc)), .no, .no, .no, .no, .no, .no, .no, .no, .no, .no, .no, .no]) = _
  have hg := good4 hd.2 g1 g2 g3
  have hk := drawn_keep m3 g3
  have gn := normR_good hg
  have kn : keepR (normR cs) := keep_norm hk
  have K := kp_of gn kn
  have hrows : rows cs = rows (normR cs) := rows_same (normR_rEq cs).symm (kp_of hg hk) K
  have hne := rows_ne K
  rw [w_seq (w_asg 4 (v_make (v_cons (v_var 3 rfl) v_nil) (mk_lstsC cs hg (by omega) (by omega))))]
  show ans (sSeq _ _ [.fz (.rd (ns.map .int)), .ow s3.l, .fz (mD ms), .fz (.lst (cs.map eLc)), .fz (eRu (normR cs)), .no, .no, .no, .no, .no, .no, .no, .no, .no, .no, .no]) = _
  have hf := c_lfrontier cs
  rw [hrows] at hf
  rw [w_seq (w_asg 5 (v_call (v_cons (v_var 3 rfl) v_nil) hf))]
  show ans (sSeq _ _ [.fz (.rd (ns.map .int)), .ow s3.l, .fz (mD ms), .fz (.lst (cs.map eLc)), .fz (eRu (normR cs)), .fz (.lst ((rows (normR cs)).map ePr)), .no, .no, .no, .no, .no, .no, .no, .no, .no, .no]) = _
  have ht := c_told (normR cs) kn hne
  rw [w_seq (w_ifnot2 (v_call (v_cons (v_var 4 rfl) (v_cons (v_var 5 rfl) v_nil)) ht))]
  obtain ⟨_, hfo⟩ := fo_frontier (normR cs) kn
  rw [w_seq (w_asgO2 6 (foo_go (v_cons (v_var 4 rfl) v_nil) hfo))]
  show ans (sSeq _ _ [.fz (.rd (ns.map .int)), .ow s3.l, .fz (mD ms), .fz (.lst (cs.map eLc)), .fz (eRu (normR cs)), .fz (.lst ((rows (normR cs)).map ePr)), .ow ((rows (normR cs)).map eWp), .no, .no, .no, .no, .no, .no, .no, .no, .no]) = _
  have hgr : eCallI2 6 f__law_greatest (eVar 4) [.fz (.rd (ns.map .int)), .ow s3.l, .fz (mD ms), .fz (.lst (cs.map eLc)), .fz (eRu (normR cs)), .fz (.lst ((rows (normR cs)).map ePr)), .ow ((rows (normR cs)).map eWp), .no, .no, .no, .no, .no, .no, .no, .no, .no] = .ok (.bl true) [.fz (.rd (ns.map .int)), .ow s3.l, .fz (mD ms), .fz (.lst (cs.map eLc)), .fz (eRu (normR cs)), .fz (.lst ((rows (normR cs)).map ePr)), .ow ((rows (normR cs)).map eWp), .no, .no, .no, .no, .no, .no, .no, .no, .no] := i2_go (xs := (rows (normR cs)).map eWp) rfl (v_var 4 rfl) (f_greatest (normR cs) gn (by decide) K)
  rw [w_seq (w_ifnot2 hgr)]
  obtain ⟨ρ', ⟨s4, u7, u8, u9, u10, u11, u13, eu⟩, hfor⟩ := for_idM (tg := .nm 7) (body := bW) (fun k : Nat => D.int (0 + k)) (fun ρ => ∃ (s : Dr) (s7 s8 s9 s10 s11 s13 : Sl), ρ = [.fz (.rd (ns.map .int)), .ow s.l, .fz (mD ms), .fz (.lst (cs.map eLc)), .fz (eRu (normR cs)), .fz (.lst ((rows (normR cs)).map ePr)), .ow ((rows (normR cs)).map eWp), s7, s8, s9, s10, s11, .no, s13, .no, .no]) (List.range 12) [.fz (.rd (ns.map .int)), .ow s3.l, .fz (mD ms), .fz (.lst (cs.map eLc)), .fz (eRu (normR cs)), .fz (.lst ((rows (normR cs)).map ePr)), .ow ((rows (normR cs)).map eWp), .no, .no, .no, .no, .no, .no, .no, .no, .no] ⟨s3, .no, .no, .no, .no, .no, .no, rfl⟩ (fun k _ ρ hI => by
    obtain ⟨s, s7, s8, s9, s10, s11, s13, e⟩ := hI
    subst e
    obtain ⟨s', t8, t9, t10, t11, t13, h⟩ := turn cs hg hk (.fz (.rd (ns.map .int))) (.fz (mD ms)) (.fz (.lst ((rows (normR cs)).map ePr))) (.fz (.int (0 + k))) s8 s9 s10 s11 s13 s
    exact ⟨_, _, rfl, h, s', .fz (.int (0 + k)), t8, t9, t10, t11, t13, rfl⟩)
  have hs : iRg1 (aCons (EM.ret (.int 12)) aNil) [.fz (.rd (ns.map .int)), .ow s3.l, .fz (mD ms), .fz (.lst (cs.map eLc)), .fz (eRu (normR cs)), .fz (.lst ((rows (normR cs)).map ePr)), .ow ((rows (normR cs)).map eWp), .no, .no, .no, .no, .no, .no, .no, .no, .no] = .ok (.rg 0 12) [.fz (.rd (ns.map .int)), .ow s3.l, .fz (mD ms), .fz (.lst (cs.map eLc)), .fz (eRu (normR cs)), .fz (.lst ((rows (normR cs)).map ePr)), .ow ((rows (normR cs)).map eWp), .no, .no, .no, .no, .no, .no, .no, .no, .no] := by
    show gRg1 [.int (12 : Nat)] _ = _
    rw [rg1 12 (by decide)]
    rfl
  have hw : sFor (.nm 7) (iRg1 (aCons (EM.ret (.int 12)) aNil)) bW [.fz (.rd (ns.map .int)), .ow s3.l, .fz (mD ms), .fz (.lst (cs.map eLc)), .fz (eRu (normR cs)), .fz (.lst ((rows (normR cs)).map ePr)), .ow ((rows (normR cs)).map eWp), .no, .no, .no, .no, .no, .no, .no, .no, .no] = .ok .nx [.fz (.rd (ns.map .int)), .ow s4.l, .fz (mD ms), .fz (.lst (cs.map eLc)), .fz (eRu (normR cs)), .fz (.lst ((rows (normR cs)).map ePr)), .ow ((rows (normR cs)).map eWp), u7, u8, u9, u10, u11, .no, u13, .no, .no] := by
    rw [for_src hs trivial, ← eu]
    exact hfor
  show ans ((sSeq (sFor (.nm 7) (iRg1 (aCons (EM.ret (.int 12)) aNil)) bW) _) [.fz (.rd (ns.map .int)), .ow s3.l, .fz (mD ms), .fz (.lst (cs.map eLc)), .fz (eRu (normR cs)), .fz (.lst ((rows (normR cs)).map ePr)), .ow ((rows (normR cs)).map eWp), .no, .no, .no, .no, .no, .no, .no, .no, .no]) = _
  rw [w_seq hw]
  have happ : (sApp 6 (aCons (eCall0 f_World_wide aNil) aNil)) [.fz (.rd (ns.map .int)), .ow s4.l, .fz (mD ms), .fz (.lst (cs.map eLc)), .fz (eRu (normR cs)), .fz (.lst ((rows (normR cs)).map ePr)), .ow ((rows (normR cs)).map eWp), u7, u8, u9, u10, u11, .no, u13, .no, .no] = .ok .nx [.fz (.rd (ns.map .int)), .ow s4.l, .fz (mD ms), .fz (.lst (cs.map eLc)), .fz (eRu (normR cs)), .fz (.lst ((rows (normR cs)).map ePr)), .ow ((rows (normR cs)).map eWp ++ [eWo none none]), u7, u8, u9, u10, u11, .no, u13, .no, .no] := by
    rw [x_app]
    simp only [List.getD_cons_succ, List.getD_cons_zero, x_own1]
    rw [v_cons (v_call v_nil c_wide) v_nil, x_rok]
    show (if ((rows (normR cs)).map eWp).length < LIM then _ else _) = _
    have := rows_len (normR cs)
    rw [if_pos (by rw [List.length_map, LIM_eq]; omega)]
    rfl
  rw [w_seq happ]
  obtain ⟨d5, s5, q5, lo5, hi5⟩ := draw_ow (fa := aCons (EM.ret (.int 2)) aNil) (s := s4) (r0 := .fz (.rd (ns.map .int))) (r := [.fz (mD ms), .fz (.lst (cs.map eLc)), .fz (eRu (normR cs)), .fz (.lst ((rows (normR cs)).map ePr)), .ow ((rows (normR cs)).map eWp ++ [eWo none none]), u7, u8, u9, u10, u11, .no, u13, .no, .no]) (L := 2) rfl (by omega) (by omega)
  obtain ⟨w, hwm, p5⟩ := pick_mem eM [.own, .got] d5 lo5 hi5
  rw [w_seq (w_pick 14 (v_fz (v_cons (x_ret _ (D.str "own")) (v_cons (x_ret _ (D.str "got")) v_nil)) (Nat.le_of_ble_eq_true rfl)) q5 p5)]
  show ans (sSeq _ _ [.fz (.rd (ns.map .int)), .ow s5.l, .fz (mD ms), .fz (.lst (cs.map eLc)), .fz (eRu (normR cs)), .fz (.lst ((rows (normR cs)).map ePr)), .ow ((rows (normR cs)).map eWp ++ [eWo none none]), u7, u8, u9, u10, u11, .no, u13, .fz (eM w), .no]) = _
  have hw : bad w := by
    simp only [List.mem_cons, List.not_mem_nil, or_false] at hwm
    exact hwm
  obtain ⟨d6, s6, q6, lo6, hi6⟩ := draw_ow (fa := aCons (EM.ret (.int 100)) aNil) (s := s5) (r0 := .fz (.rd (ns.map .int))) (r := [.fz (mD ms), .fz (.lst (cs.map eLc)), .fz (eRu (normR cs)), .fz (.lst ((rows (normR cs)).map ePr)), .ow ((rows (normR cs)).map eWp ++ [eWo none none]), u7, u8, u9, u10, u11, .no, u13, .fz (eM w), .no]) (L := 100) rfl (by omega) (by omega)
  obtain ⟨d7, s7, q7, lo7, hi7⟩ := draw_ow (fa := aCons (EM.ret (.int 100)) aNil) (s := s6) (r0 := .fz (.rd (ns.map .int))) (r := [.fz (mD ms), .fz (.lst (cs.map eLc)), .fz (eRu (normR cs)), .fz (.lst ((rows (normR cs)).map ePr)), .ow ((rows (normR cs)).map eWp ++ [eWo none none]), u7, u8, u9, u10, u11, .no, u13, .fz (eM w), .no]) (L := 100) rfl (by omega) (by omega)
  rw [w_seq (w_asg2 15 (v_make2 (v_cons2 (v_fz2 (v_cons2 (v_fz2 (v_cons2 (v_tup2 (v_cons2 (x_ret _ (D.str "done")) (v_cons2 q6 v_nil)) (Nat.le_of_ble_eq_true rfl)) (v_cons2 (v_tup2 (v_cons2 (v_var 14 rfl) (v_cons2 q7 v_nil)) (Nat.le_of_ble_eq_true rfl)) v_nil)) (Nat.le_of_ble_eq_true rfl)) v_nil) (Nat.le_of_ble_eq_true rfl)) v_nil) (mk_lstsC [[(.done, d6), (w, d7)]] (good_two w d6 d7 lo6 (by omega) lo7 (by omega)) (by omega) (by omega))))]
  show ans (sSeq _ _ [.fz (.rd (ns.map .int)), .ow s7.l, .fz (mD ms), .fz (.lst (cs.map eLc)), .fz (eRu (normR cs)), .fz (.lst ((rows (normR cs)).map ePr)), .ow ((rows (normR cs)).map eWp ++ [eWo none none]), u7, u8, u9, u10, u11, .no, u13, .fz (eM w), .fz (eRu (normR [[(.done, d6), (w, d7)]]))]) = _
  have r1 := c_refused (normR [[(.done, d6), (w, d7)]]) w hw (.inr (marks_two d6 d7 w hw))
  have r2 := c_refused (normR [[(w, 1)]]) w hw (.inl (marks_one w 1 hw))
  have hof : (eCm "Rule" f_Rule_of (EM.ret (.cls "Rule")) (aCons (eVar 14) (aCons (EM.ret (.int 1)) aNil))) [.fz (.rd (ns.map .int)), .ow s7.l, .fz (mD ms), .fz (.lst (cs.map eLc)), .fz (eRu (normR cs)), .fz (.lst ((rows (normR cs)).map ePr)), .ow ((rows (normR cs)).map eWp ++ [eWo none none]), u7, u8, u9, u10, u11, .no, u13, .fz (eM w), .fz (eRu (normR [[(.done, d6), (w, d7)]]))] = .ok (eRu (normR [[(w, 1)]])) [.fz (.rd (ns.map .int)), .ow s7.l, .fz (mD ms), .fz (.lst (cs.map eLc)), .fz (eRu (normR cs)), .fz (.lst ((rows (normR cs)).map ePr)), .ow ((rows (normR cs)).map eWp ++ [eWo none none]), u7, u8, u9, u10, u11, .no, u13, .fz (eM w), .fz (eRu (normR [[(.done, d6), (w, d7)]]))] := by
    unfold eCm cmRes
    rw [x_bind, x_ret, x_rok]
    dsimp only
    rw [if_pos rfl, x_bind]
    show (callRes0 f_Rule_of [.cls "Rule", .str w.s, .int 1]) _ = _
    rw [c_Rule_of w 1 (by omega) (by omega)]
    rfl
  have hsm : SameD 9 (.lst [.lst [.str w.s, .bl true], .lst [.str w.s, .bl true]]) := by
    have h1 : SameD 8 (.lst [.str w.s, .bl true]) := .lst _ (fun x hx => by
      rcases List.mem_cons.mp hx with e | e
      · rw [e]; exact .str _
      · rw [List.mem_singleton.mp e]; exact .bl _) (Nat.le_of_ble_eq_true rfl)
    exact .lst _ (fun x hx => by
      rcases List.mem_cons.mp hx with e | e
      · rw [e]; exact h1
      · rw [List.mem_singleton.mp e]; exact h1) (Nat.le_of_ble_eq_true rfl)
  rw [w_seq (w_same (n := 9) (v_fz (v_cons (v_call (v_cons (v_var 15 rfl) v_nil) r1) (v_cons (v_call (v_cons hof v_nil) r2) v_nil)) (Nat.le_of_ble_eq_true rfl)) (v_fz (v_cons (v_fz (v_cons (v_var 14 rfl) (v_cons (x_ret _ (D.bl true)) v_nil)) (Nat.le_of_ble_eq_true rfl)) (v_cons (v_fz (v_cons (v_var 14 rfl) (v_cons (x_ret _ (D.bl true)) v_nil)) (Nat.le_of_ble_eq_true rfl)) v_nil)) (Nat.le_of_ble_eq_true rfl)) hsm)]
  rw [x_sret, v_call (v_cons (v_var 4 rfl) (v_cons (v_var 5 rfl) v_nil)) ht]
  rfl
end Wk

set_option Elab.async false
set_option linter.all false
set_option maxRecDepth 100000
set_option maxHeartbeats 0
namespace Wk
open PySem PySem.Spec L2 He HW DL HdT
open PyProof.Rows hiding St
theorem fd_same {K : PySem.W.Frag} {x q : Str} {a : Arguments} {b : List Stmt} {sc : Scope} {dvs : List V} {kws : List (Str × V)} {f : Addr} {fd fd' : FuncData} (F : FunD K x q a b sc dvs kws f fd) (F' : FunD K x q a b sc dvs kws f fd') : fd' = fd := by
  obtain ⟨_, _, _, _, _, _, _, _, _, _, _, l, _⟩ := F.ex
  obtain ⟨_, _, _, _, _, _, _, _, _, _, _, l', _⟩ := F'.ex
  rw [l] at l'
  injection l' with l'
  injection l' with _ _ l' _
  injection l' with l'
  exact l'.symm
theorem facts {w : World} {K : PySem.W.Frag} {h : Heap} {mg : Str → Option Value} {f : Addr} (X : K.In h) (G : h.Ns mainGlobals mg) (hfa : mg ("law" : Str) = some (.ref f)) (c : SaysE fa fn ts er w K) :
    ∃ fd : FuncData, (∀ (s : Shared) (v : Value), BindsTo s fd ⟨[v], []⟩ [("script", v)]) ∧ ∀ base : Heap, K.In base → base.Ns mainGlobals mg → FnOk Pg w K mg base CX0 12 f fd ["script"] (sp0 K mg f_law) := by
  have e := hfa.symm.trans (g_law X G c)
  cases e
  obtain ⟨fd, F, _⟩ := o_law (base := h) X G c
  have b := FunD.bindsA (ps := ["script"]) F fun _ _ _ _ _ _ us hl => match us, hl with | [_], _ => rfl
  refine ⟨fd, fun s v => b s [v] rfl, fun base _ _ => ?_⟩
  obtain ⟨fd', F', O⟩ := o_law (base := base) X G c
  have e := fd_same F F'
  subst e
  exact O
theorem repL_ints {K : PySem.W.Frag} {mg : Str → Option Value} {F : Hp} : ∀ {ys : List Int}, RepL K mg F (ys.map D.int) (ys.map V.int)
  | [] => .nil
  | y :: ys => .cons (rep_int.mpr rfl) repL_ints
theorem law_sp {K : PySem.W.Frag} {mg : Str → Option Value} {H : Hp} {a : Addr} {ns : List Int} {Q : VK} {E : XK} {as' : List Sl} (hS : SqL K H a (ns.map V.int)) (e : f_law [.fz (.rd (ns.map .int))] = .ok (.bl true) as') (q : ∀ H', Q (.bl true) H') : sp0 K mg f_law [.ref a] H Q E := by
  have r : RepL K mg H [.rd (ns.map .int)] [.ref a] := .cons (by unfold Rep; exact ⟨a, _, rfl, hS, repL_ints⟩) .nil
  refine ⟨_, H, _, SR.args (Same.refl H) r, ?_⟩
  show Post _ _ _ _ _ _ _ _ (f_law [.fz (.rd (ns.map .int))])
  rw [e]
  intro b F' H' _ _ rv
  rw [rep_bl.mp rv]
  exact q H'
/-- THE PLAIN LAW -/
def Plain : Prop := ∀ ns : List Int, ns.length ≤ 63 → ∃ as', f_law [.fz (.rd (ns.map .int))] = .ok (.bl true) as'
end Wk
open PySem PySem.W PySem.Calls PyProof.Rows
theorem kholds (pl : Wk.Plain) : PySem.Challenge.rw_copiesfollow_k82_whole_frontier.Holds := by
  w_on; o_law
  refine HandSHeadRun.head_any (r := OpenLaw.row PySem.Challenge.rw_copiesfollow_k82_whole_frontier) (q := view (OpenLaw.row PySem.Challenge.rw_copiesfollow_k82_whole_frontier).prog [65]) (H := HdT.hk) (ob := HdT.ob) (M := 20000) (loose := HdT.nms) (d := HandSHeadRun.topDef (OpenLaw.row PySem.Challenge.rw_copiesfollow_k82_whole_frontier).prog 65) (kwd := []) HdT.ob_eq
    (by kernel_rfl) (fun s => by kernel_rfl) HdT.run (by kernel_rfl) (by kernel_rfl) (by kernel_rfl) (by rfl) (by first | assumption | decide +kernel) (by decide +kernel) ⟨rfl, rfl, rfl, rfl, rfl, by decide +kernel⟩ ?hw ?hc
  case hw => w_witness2
  case hc =>
    refine L2.walk_ofE (l := PySem.Challenge.rw_copiesfollow_k82_whole_frontier) (n := 63) (k := 12) (x := "script") (CX := L2.CX0) rfl (by decide) (by kernel_rfl) ⟨rfl, by decide, by decide⟩ ?F (fun _ _ _ _ z => z)
    intro w mg fa h Y G hmg0
    obtain ⟨K, KX, c⟩ := Y
    have hmg : mg ("law" : PySem.Str) = some (.ref fa) := by
      have e : (HandSHeadRun.topDef (OpenLaw.row PySem.Challenge.rw_copiesfollow_k82_whole_frontier).prog 65).name = ("law" : PySem.Str) := by kernel_rfl
      rw [← e]
      exact hmg0
    obtain ⟨fd, hb, hF⟩ := Wk.facts (w := w) KX G hmg c
    exact ⟨K, fd, DL.sp0 K mg Wk.f_law, KX, hb, fun H a ns hl _ hS => by
      obtain ⟨as', e⟩ := pl ns hl
      exact Wk.law_sp hS e fun _ => rfl, hF⟩

set_option Elab.async false
set_option maxRecDepth 100000 in
set_option maxHeartbeats 0 in
theorem PySem.Challenge.cw_copiesfollow_k82_whole_frontier_holds : PySem.Challenge.rw_copiesfollow_k82_whole_frontier.Holds := by
  exact kholds Wk.law_ok

