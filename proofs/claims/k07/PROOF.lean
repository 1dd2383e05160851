import PyProof.Rows.All
import Wide.All
import OpenK.AllK
import Wide.FinOn
import HandS.Base
import HandS.Call
import HandS.List
import HandS.Comp
import HandS.Ends
import HandS.Exc
import HandS.ExcOwn
import HandS.TryOnly
import HandS.Iter
import HandS.CallSlots
import HandS.Words
import HandS.WordsExc
import HandS.IsInst
import HandS.ForMost
import HandS.More
import HandS.Deep
import HandS.ExcIs
import HandS.FStrTup
import PySem.Challenge.RW_everpace_k07_moments_moved_and_grown
set_option Elab.async false
set_option linter.all false
set_option maxRecDepth 100000
set_option maxHeartbeats 4000000
namespace EP
open PySem PySem.Spec PyProof.Rows L2
section
/-! ### data, cells, representation -/
/-- an exception object of the class c, kept at a -/
def ExK (c : Value) (a : Addr) : HO := .ext fun h => ∃ (oe : Obj) (vs : Array Value), h.get? a = some oe ∧ Zc c none oe ∧ oe.data = .fields vs
inductive D where
  | non | bl (b : Bool) | int (i : Int) | str (x : Str) | tup (ds : List D) | lst (ds : List D) | ro (ds : List D) | ref (a : Addr) | ty (n : String) | exc (c : Value)
inductive Cell where
  | lst (ds : List D)
abbrev Mu := Addr → Option Cell
def put (μ : Mu) (a : Addr) (c : Cell) : Mu := fun b => if b = a then some c else μ b
def del (μ : Mu) (a : Addr) : Mu := fun b => if b = a then none else μ b
theorem put_same {μ : Mu} {a : Addr} {c : Cell} : put μ a c a = some c := if_pos rfl
theorem put_ne {μ : Mu} {a b : Addr} {c : Cell} (h : b ≠ a) : put μ a c b = μ b := if_neg h
theorem put_put {μ : Mu} {a : Addr} {c e : Cell} : put (put μ a c) a e = put μ a e := by
  funext b
  unfold put
  split <;> rfl
theorem del_same {μ : Mu} {a : Addr} : del μ a a = none := if_pos rfl
theorem del_ne {μ : Mu} {a b : Addr} (h : b ≠ a) : del μ a b = μ b := if_neg h
theorem del_put {μ : Mu} {a : Addr} {c : Cell} (h : μ a = none) : del (put μ a c) a = μ := by
  funext b
  by_cases e : b = a
  · rw [e, del_same, h]
  · rw [del_ne e, put_ne e]
abbrev RE := List (Option D)
abbrev XD := Option (List (Str × D))
abbrev DK := D → Mu → Prop
abbrev DX := RE → Value → XD → Mu → Prop
/-- a reading over data: an expression, a test, arguments -/
abbrev DE := RE → Mu → DK → Prop
abbrev DT := RE → Mu → (Bool → Mu → Prop) → Prop
abbrev DA := RE → Mu → (List D → Mu → Prop) → Prop
structure DN where
  nx : RE → Mu → Prop
  rt : DK
  bk : RE → Mu → Prop := fun _ _ => False
  ct : RE → Mu → Prop := fun _ _ => False
abbrev DS := DN → RE → Mu → Prop
/-- a def's promise over data -/
abbrev DSp := List D → Mu → DK → (Value → XD → Mu → Prop) → Prop

mutual
def Rep (K : PySem.W.Frag) (F : Hp) : D → V → Prop
  | .non, v => v = .non
  | .bl b, v => v = .bl b
  | .int i, v => v = .int i
  | .str x, v => v = .str x
  | .ref a, v => v = .ref a
  | .ty n, v => v = .ty n
  | .exc c, v => ∃ a, v = .ref a ∧ F a = some (ExK c a)
  | .tup ds, v => ∃ a xs, v = .ref a ∧ SqT K F a xs ∧ Reps K F ds xs
  | .lst ds, v => ∃ a xs, v = .ref a ∧ F a = some (.lst xs) ∧ Reps K F ds xs
  | .ro ds, v => ∃ a xs, v = .ref a ∧ SqL K F a xs ∧ Reps K F ds xs
def Reps (K : PySem.W.Frag) (F : Hp) : List D → List V → Prop
  | [], vs => vs = []
  | d :: ds, vs => ∃ v r, vs = v :: r ∧ Rep K F d v ∧ Reps K F ds r
end

def Ex (H H' : Hp) : Prop := ∀ a o, H a = some o → H' a = some o
theorem Ex.refl (H : Hp) : Ex H H := fun _ _ h => h
theorem Ex.trans {H H1 H2 : Hp} (a : Ex H H1) (b : Ex H1 H2) : Ex H H2 := fun x o h => b x o (a x o h)
theorem Ex.new {H : Hp} {p : Addr} {o : HO} (h : H p = none) : Ex H (upd H p o) := fun a u e => by
  rw [upd_ne (ne_of_none e h)]
  exact e
theorem Ex.mut {H H' : Hp} {p : Addr} {o : HO} (e : Ex H H') (h : H p = none) : Ex H (upd H' p o) := fun a u ha => by
  rw [upd_ne (ne_of_none ha h)]
  exact e a u ha
theorem Ex.none {H H' : Hp} {p : Addr} (e : Ex H H') (h : H' p = none) : H p = none := by
  cases h1 : H p with
  | none => rfl
  | some o => rw [e p o h1] at h; cases h
theorem Ex.both {H H' : Hp} {p : Addr} {o : HO} (e : Ex H H') : Ex (upd H p o) (upd H' p o) := fun a u h => by
  by_cases z : a = p
  · rw [z, upd_same] at h; rw [z, upd_same]; exact h
  · rw [upd_ne z] at h; rw [upd_ne z]; exact e a u h
theorem ex_l {K : PySem.W.Frag} {H H' : Hp} {a : Addr} {xs : List V} (e : Ex H H') (h : SqL K H a xs) : SqL K H' a xs := by
  rcases h with (h | ⟨o, h⟩) | h
  · exact .inl (.inl (e _ _ h))
  · exact .inl (.inr ⟨o, e _ _ h⟩)
  · exact .inr h
theorem ex_t {K : PySem.W.Frag} {H H' : Hp} {a : Addr} {xs : List V} (e : Ex H H') (h : SqT K H a xs) : SqT K H' a xs := by
  rcases h with (h | ⟨o, h⟩) | h
  · exact .inl (.inl (e _ _ h))
  · exact .inl (.inr ⟨o, e _ _ h⟩)
  · exact .inr h
mutual
theorem Rep.mono {K : PySem.W.Frag} {F F' : Hp} (e : Ex F F') : ∀ {d : D} {v : V}, Rep K F d v → Rep K F' d v
  | .non, _, h => by unfold Rep at *; exact h
  | .bl _, _, h => by unfold Rep at *; exact h
  | .int _, _, h => by unfold Rep at *; exact h
  | .str _, _, h => by unfold Rep at *; exact h
  | .ref _, _, h => by unfold Rep at *; exact h
  | .ty _, _, h => by unfold Rep at *; exact h
  | .exc c, _, h => by
    unfold Rep at *
    obtain ⟨a, h1, h2⟩ := h
    exact ⟨a, h1, e _ _ h2⟩
  | .tup ds, _, h => by
    unfold Rep at *
    obtain ⟨a, xs, h1, h2, h3⟩ := h
    exact ⟨a, xs, h1, ex_t e h2, Reps.mono e h3⟩
  | .lst ds, _, h => by
    unfold Rep at *
    obtain ⟨a, xs, h1, h2, h3⟩ := h
    exact ⟨a, xs, h1, e _ _ h2, Reps.mono e h3⟩
  | .ro ds, _, h => by
    unfold Rep at *
    obtain ⟨a, xs, h1, h2, h3⟩ := h
    exact ⟨a, xs, h1, ex_l e h2, Reps.mono e h3⟩
theorem Reps.mono {K : PySem.W.Frag} {F F' : Hp} (e : Ex F F') : ∀ {ds : List D} {vs : List V}, Reps K F ds vs → Reps K F' ds vs
  | [], _, h => by unfold Reps at *; exact h
  | d :: ds, _, h => by
    unfold Reps at *
    obtain ⟨v, r, h1, h2, h3⟩ := h
    exact ⟨v, r, h1, Rep.mono e h2, Reps.mono e h3⟩
end
section
variable {K : PySem.W.Frag} {F F' : Hp} {v : V} {ds es : List D} {vs ws : List V}
theorem rep_non (h : Rep K F .non v) : v = .non := by unfold Rep at h; exact h
theorem rep_bl {b} (h : Rep K F (.bl b) v) : v = .bl b := by unfold Rep at h; exact h
theorem rep_int {i} (h : Rep K F (.int i) v) : v = .int i := by unfold Rep at h; exact h
theorem rep_str {x} (h : Rep K F (.str x) v) : v = .str x := by unfold Rep at h; exact h
theorem rep_ref {a} (h : Rep K F (.ref a) v) : v = .ref a := by unfold Rep at h; exact h
theorem rep_tup (h : Rep K F (.tup ds) v) : ∃ a xs, v = .ref a ∧ SqT K F a xs ∧ Reps K F ds xs := by unfold Rep at h; exact h
theorem rep_lst (h : Rep K F (.lst ds) v) : ∃ a xs, v = .ref a ∧ F a = some (.lst xs) ∧ Reps K F ds xs := by unfold Rep at h; exact h
theorem rep_ro (h : Rep K F (.ro ds) v) : ∃ a xs, v = .ref a ∧ SqL K F a xs ∧ Reps K F ds xs := by unfold Rep at h; exact h
theorem rep_exc {c} (h : Rep K F (.exc c) v) : ∃ a, v = .ref a ∧ F a = some (ExK c a) := by unfold Rep at h; exact h
theorem mk_exc {c a} (h : F a = some (ExK c a)) : Rep K F (.exc c) (.ref a) := by unfold Rep; exact ⟨a, rfl, h⟩
theorem mk_non : Rep K F .non .non := by unfold Rep; rfl
theorem mk_bl {b} : Rep K F (.bl b) (.bl b) := by unfold Rep; rfl
theorem mk_int {i} : Rep K F (.int i) (.int i) := by unfold Rep; rfl
theorem mk_str {x} : Rep K F (.str x) (.str x) := by unfold Rep; rfl
theorem mk_ref {a} : Rep K F (.ref a) (.ref a) := by unfold Rep; rfl
theorem mk_ty {n} : Rep K F (.ty n) (.ty n) := by unfold Rep; rfl
theorem mk_tup {a xs} (h : SqT K F a xs) (r : Reps K F ds xs) : Rep K F (.tup ds) (.ref a) := by unfold Rep; exact ⟨a, xs, rfl, h, r⟩
theorem mk_lst {a xs} (h : F a = some (.lst xs)) (r : Reps K F ds xs) : Rep K F (.lst ds) (.ref a) := by unfold Rep; exact ⟨a, xs, rfl, h, r⟩
theorem mk_ro {a xs} (h : SqL K F a xs) (r : Reps K F ds xs) : Rep K F (.ro ds) (.ref a) := by unfold Rep; exact ⟨a, xs, rfl, h, r⟩
theorem reps_nil : Reps K F [] [] := by unfold Reps; rfl
theorem reps_cons {d v} (h : Rep K F d v) (r : Reps K F ds vs) : Reps K F (d :: ds) (v :: vs) := by unfold Reps; exact ⟨v, vs, rfl, h, r⟩
theorem Reps.length : ∀ {ds : List D} {vs : List V}, Reps K F ds vs → ds.length = vs.length
  | [], _, h => by unfold Reps at h; subst h; rfl
  | d :: ds, _, h => by
    unfold Reps at h
    obtain ⟨v, r, rfl, _, h3⟩ := h
    simp only [List.length_cons, Reps.length h3]
theorem Reps.get : ∀ {ds : List D} {vs : List V} {i : Nat} {d : D}, Reps K F ds vs → ds[i]? = some d → ∃ v, vs[i]? = some v ∧ Rep K F d v
  | [], _, _, _, _, e => by simp at e
  | d :: ds, _, i, d', h, e => by
    unfold Reps at h
    obtain ⟨v, r, rfl, h2, h3⟩ := h
    cases i with
    | zero =>
      simp at e
      subst e
      exact ⟨v, rfl, h2⟩
    | succ i =>
      obtain ⟨u, h4, h5⟩ := Reps.get (i := i) h3 (by simpa using e)
      exact ⟨u, by simpa using h4, h5⟩
theorem Reps.getV : ∀ {ds : List D} {vs : List V} {i : Nat} {v : V}, Reps K F ds vs → vs[i]? = some v → ∃ d, ds[i]? = some d ∧ Rep K F d v
  | [], _, _, _, h, e => by unfold Reps at h; subst h; simp at e
  | d :: ds, _, i, v', h, e => by
    unfold Reps at h
    obtain ⟨v, r, rfl, h2, h3⟩ := h
    cases i with
    | zero =>
      simp at e
      subst e
      exact ⟨d, rfl, h2⟩
    | succ i =>
      obtain ⟨u, h4, h5⟩ := Reps.getV (i := i) h3 (by simpa using e)
      exact ⟨u, by simpa using h4, h5⟩
theorem Reps.app : ∀ {ds : List D} {vs : List V}, Reps K F ds vs → Reps K F es ws → Reps K F (ds ++ es) (vs ++ ws)
  | [], _, h, g => by unfold Reps at h; subst h; exact g
  | d :: ds, _, h, g => by
    unfold Reps at h
    obtain ⟨v, r, rfl, h2, h3⟩ := h
    exact reps_cons h2 (Reps.app h3 g)
theorem Reps.take : ∀ {ds : List D} {vs : List V} (n : Nat), Reps K F ds vs → Reps K F (ds.take n) (vs.take n)
  | [], _, n, h => by unfold Reps at h; subst h; simp; exact reps_nil
  | d :: ds, _, n, h => by
    unfold Reps at h
    obtain ⟨v, r, rfl, h2, h3⟩ := h
    cases n with
    | zero => exact reps_nil
    | succ n => exact reps_cons h2 (Reps.take n h3)
theorem Reps.drop : ∀ {ds : List D} {vs : List V} (n : Nat), Reps K F ds vs → Reps K F (ds.drop n) (vs.drop n)
  | [], _, n, h => by unfold Reps at h; subst h; simp; exact reps_nil
  | d :: ds, _, n, h => by
    unfold Reps at h
    obtain ⟨v, r, rfl, h2, h3⟩ := h
    cases n with
    | zero => exact reps_cons h2 h3
    | succ n => exact Reps.drop n h3
theorem Reps.set : ∀ {ds : List D} {vs : List V} {d : D} {v : V} (n : Nat), Reps K F ds vs → Rep K F d v → Reps K F (ds.set n d) (vs.set n v)
  | [], _, _, _, n, h, _ => by unfold Reps at h; subst h; exact reps_nil
  | d :: ds, _, _, _, n, h, g => by
    unfold Reps at h
    obtain ⟨v, r, rfl, h2, h3⟩ := h
    cases n with
    | zero => exact reps_cons g h3
    | succ n => exact reps_cons h2 (Reps.set n h3 g)
end

def CellOk (K : PySem.W.Frag) (F H : Hp) (a : Addr) : Cell → Prop
  | .lst ds => ∃ vs, H a = some (.lst vs) ∧ Reps K F ds vs
theorem CellOk.there {K F H a c} (h : CellOk K F H a c) : ∃ o, H a = some o := by
  cases c with
  | lst ds => obtain ⟨vs, e, _⟩ := h; exact ⟨_, e⟩

/-- what grows: the frozen part; what is neither frozen nor a cell of ours stays as it is -/
structure Gr (F : Hp) (μ : Mu) (H F' : Hp) (μ' : Mu) (H' : Hp) : Prop where
  ex : Ex F F'
  fr : ∀ a o, H a = some o → F a = none → μ a = none → H' a = some o ∧ F' a = none ∧ μ' a = none
  th : ∀ a o, H a = some o → ∃ o', H' a = some o'
theorem Gr.refl {F μ H} : Gr F μ H F μ H := ⟨Ex.refl F, fun _ _ h f m => ⟨h, f, m⟩, fun _ o h => ⟨o, h⟩⟩
theorem Gr.trans {F μ H F1 μ1 H1 F2 μ2 H2} (a : Gr F μ H F1 μ1 H1) (b : Gr F1 μ1 H1 F2 μ2 H2) : Gr F μ H F2 μ2 H2 :=
  ⟨a.ex.trans b.ex, fun x o h f m => let ⟨h1, f1, m1⟩ := a.fr x o h f m; b.fr x o h1 f1 m1, fun x o h => let ⟨o1, h1⟩ := a.th x o h; b.th x o1 h1⟩
theorem th_upd {H : Hp} {p : Addr} {u : HO} (a : Addr) (o : HO) (h : H a = some o) : ∃ o', upd H p u a = some o' := by
  by_cases z : a = p
  · exact ⟨u, by rw [z, upd_same]⟩
  · exact ⟨o, by rw [upd_ne z]; exact h⟩

structure Ent where
  F : Hp
  μ : Mu
  H : Hp
/-- the store: frozen part F, cells μ, over H; grown since the entry T -/
structure COk (K : PySem.W.Frag) (T : Ent) (F : Hp) (μ : Mu) (H : Hp) : Prop where
  gr : Gr T.F T.μ T.H F μ H
  sub : Ex F H
  cel : ∀ a c, μ a = some c → F a = none ∧ CellOk K F H a c
structure ROk (K : PySem.W.Frag) (T : Ent) (ρ : RE) (μ : Mu) (σ : L2.St) (F H : Hp) : Prop where
  c : COk K T F μ H
  len : ρ.length = σ.length
  env : ∀ (i : Nat) (d : D), ρ[i]? = some (some d) → ∃ v, σ[i]? = some (some v) ∧ Rep K F d v
theorem ROk.go {K T ρ μ μ' σ F F' H H'} (R : ROk K T ρ μ σ F H) (e : Ex F F') (c : COk K T F' μ' H') : ROk K T ρ μ' σ F' H' :=
  ⟨c, R.len, fun i d h => let ⟨v, h1, h2⟩ := R.env i d h; ⟨v, h1, h2.mono e⟩⟩
theorem ROk.set {K T ρ μ σ F H d v} (R : ROk K T ρ μ σ F H) (i : Nat) (r : Rep K F d v) : ROk K T (ρ.set i (some d)) μ (σ.set i (some v)) F H := by
  refine ⟨R.c, by simp [R.len], fun j d' h => ?_⟩
  by_cases e : j = i
  · subst e
    by_cases hl : j < ρ.length
    · rw [List.getElem?_set_self hl] at h
      have h' : d = d' := Option.some.inj (Option.some.inj h)
      subst h'
      exact ⟨v, List.getElem?_set_self (by rw [← R.len]; exact hl), r⟩
    · rw [List.getElem?_eq_none (by simpa using hl)] at h; cases h
  · rw [List.getElem?_set_ne (Ne.symm e)] at h
    rw [List.getElem?_set_ne (Ne.symm e)]
    exact R.env j d' h
def XRep (K : PySem.W.Frag) (F H : Hp) : Option Addr → XD → Prop
  | none, none => True
  | some a, some fs => ∃ gs : List (Str × V), F a = some (.xd gs) ∧ gs.map (·.1) = fs.map (·.1) ∧ Reps K F (fs.map (·.2)) (gs.map (·.2))
  | _, _ => False
/-- the link between the wish of exceptions and its data form -/
def WL (K : PySem.W.Frag) (T : Ent) (PX : DX) (W : WX) : Prop :=
  ∀ ρ μ σ F H cls dx x, ROk K T ρ μ σ F H → XRep K F H dx x → PX ρ cls x μ → W cls dx σ H

def HE (K : PySem.W.Frag) (W : WX) (PX : DX) (te : TE) (f : DE) : Prop := ∀ T, WL K T PX W → ∀ σ F H ρ μ (P : DK) (Q : VK), ROk K T ρ μ σ F H → f ρ μ P →
  (∀ d μ' v F' H', Gr F μ H F' μ' H' → COk K T F' μ' H' → Rep K F' d v → P d μ' → Q v H') → te σ H Q
def HT (K : PySem.W.Frag) (W : WX) (PX : DX) (tt : TT) (f : DT) : Prop := ∀ T, WL K T PX W → ∀ σ F H ρ μ P (Q : Bool → Hp → Prop), ROk K T ρ μ σ F H → f ρ μ P →
  (∀ b μ' F' H', Gr F μ H F' μ' H' → COk K T F' μ' H' → P b μ' → Q b H') → tt σ H Q
def HA (K : PySem.W.Frag) (W : WX) (PX : DX) (ta : TA) (f : DA) : Prop := ∀ T, WL K T PX W → ∀ σ F H ρ μ P (Q : List V → Hp → Prop), ROk K T ρ μ σ F H → f ρ μ P →
  (∀ ds μ' vs F' H', Gr F μ H F' μ' H' → COk K T F' μ' H' → Reps K F' ds vs → P ds μ' → Q vs H') → ta σ H Q
structure Link (K : PySem.W.Frag) (T : Ent) (F : Hp) (μ : Mu) (H : Hp) (N : DN) (E : Ends) : Prop where
  nx : ∀ ρ' μ' σ' F' H', Gr F μ H F' μ' H' → ROk K T ρ' μ' σ' F' H' → N.nx ρ' μ' → E.nx σ' H'
  rt : ∀ d v μ' F' H', Gr F μ H F' μ' H' → COk K T F' μ' H' → Rep K F' d v → N.rt d μ' → E.rt v H'
  bk : ∀ ρ' μ' σ' F' H', Gr F μ H F' μ' H' → ROk K T ρ' μ' σ' F' H' → N.bk ρ' μ' → E.bk σ' H'
  ct : ∀ ρ' μ' σ' F' H', Gr F μ H F' μ' H' → ROk K T ρ' μ' σ' F' H' → N.ct ρ' μ' → E.ct σ' H'
theorem Link.go {K T F μ H F1 μ1 H1 N E} (L : Link K T F μ H N E) (g : Gr F μ H F1 μ1 H1) : Link K T F1 μ1 H1 N E :=
  ⟨fun _ _ _ _ _ h => L.nx _ _ _ _ _ (g.trans h), fun _ _ _ _ _ h => L.rt _ _ _ _ _ (g.trans h), fun _ _ _ _ _ h => L.bk _ _ _ _ _ (g.trans h), fun _ _ _ _ _ h => L.ct _ _ _ _ _ (g.trans h)⟩
def HS (K : PySem.W.Frag) (W : WX) (PX : DX) (ts : TS) (g : DS) : Prop := ∀ T, WL K T PX W → ∀ σ F H ρ μ N E, ROk K T ρ μ σ F H → g N ρ μ → Link K T F μ H N E → ts E σ H

structure PD (X : Cx) (W : WX) (PX : DX) (e : Expr) (t : TE) (f : DE) : Prop where
  pe : PE X e t
  he : HE X.K W PX t f
structure PDT (X : Cx) (W : WX) (PX : DX) (e : Expr) (t : TT) (f : DT) : Prop where
  pe : PT X e t
  he : HT X.K W PX t f
structure PDW (X : Cx) (W : WX) (PX : DX) (e : Expr) (t : TT) (f : DT) : Prop where
  pe : PW X e t
  he : HT X.K W PX t f
structure PDTs (X : Cx) (W : WX) (PX : DX) (es : List Expr) (t : TT) (f : DT) : Prop where
  pe : PTs X es t
  he : HT X.K W PX t f
structure PDA (X : Cx) (W : WX) (PX : DX) (es : List Expr) (t : TA) (f : DA) : Prop where
  pe : PA X es t
  he : HA X.K W PX t f
structure SD (X : Cx) (W : WX) (PX : DX) (st : Stmt) (t : TS) (g : DS) : Prop where
  pe : PS X st t
  he : HS X.K W PX t g
structure SSD (X : Cx) (W : WX) (PX : DX) (st : List Stmt) (t : TS) (g : DS) : Prop where
  pe : PSs X st t
  he : HS X.K W PX t g

section
variable {X : Cx} {W : WX} {PX : DX} {a b c : Expr} {ta tb tc : TE} {f g h : DE} {pos : Pos}
/-! ### expressions -/
def dVar (i : Nat) (ρ : RE) (μ : Mu) (P : DK) : Prop := ∃ d, ρ[i]? = some (some d) ∧ P d μ
def dC (d : D) (_ : RE) (μ : Mu) (P : DK) : Prop := P d μ
theorem pd_var {i : Nat} {x : Str} (hN : X.N[i]? = some x) (hv : Vis X.env.scope x) (hd : (x == ("__debug__" : Str)) = false := by decide) (hcd : (x == ("__classdict__" : Str)) = false := by decide) : PD X W PX (.Name x pos) (tVar i) (dVar i) := by
  refine ⟨pe_var hN hv hd hcd, fun T wl σ F H ρ μ P Q R hf k => ?_⟩
  obtain ⟨d, e, p⟩ := hf
  obtain ⟨v, e1, r⟩ := R.env i d e
  exact ⟨v, e1, k d μ v F H .refl R.c r p⟩
/-- the name in slot i -/
theorem vr (i : Nat) {x : Str} (hN : X.N[i]? = some x := by rfl) (hv : Vis X.env.scope x := by first | exact Or.inl rfl | exact Or.inr (Or.inl rfl) | exact Or.inr (Or.inr rfl)) (hd : (x == ("__debug__" : Str)) = false := by decide) (hcd : (x == ("__classdict__" : Str)) = false := by decide) : PD X W PX (.Name x pos) (tVar i) (dVar i) := pd_var hN hv hd hcd
theorem pd_c {e : Expr} {v : V} {d : D} (h : PE X e (tC v)) (r : ∀ F, Rep X.K F d v) : PD X W PX e (tC v) (dC d) := by
  refine ⟨h, fun T wl σ F H ρ μ P Q R hf k => ?_⟩
  exact k d μ v F H .refl R.c (r F) hf
theorem pd_int {i j} : PD X W PX (.Constant (.int i) j pos) (tC (.int i)) (dC (.int i)) := pd_c pe_int fun _ => mk_int
theorem pd_bl {b j} : PD X W PX (.Constant (.bool b) j pos) (tC (.bl b)) (dC (.bl b)) := pd_c pe_bl fun _ => mk_bl
theorem pd_non {j} : PD X W PX (.Constant .none j pos) (tC .non) (dC .non) := pd_c pe_non fun _ => mk_non
theorem pd_str {x j} : PD X W PX (.Constant (.str x) j pos) (tC (.str x)) (dC (.str x)) := pd_c pe_str fun _ => mk_str
/-- a module's constant -/
theorem pd_glob {x : Str} {v : V} {u : Value} {d : D} (hg : Gl X x) (hm : X.mg x = some u) (r : RelV v u) (hr : Rep X.K (fun _ => none) d v) (hd : (x == ("__debug__" : Str)) = false := by decide) : PD X W PX (.Name x pos) (tC v) (dC d) :=
  pd_c (pe_glob hg hm r hd) fun _ => hr.mono (by intro a o z; cases z)
/-- an operator's rule over data: r2 tells what is asked -/
def OD (K : PySem.W.Frag) (r : R2) (q : D → D → Mu → DK → Prop) : Prop := ∀ T F H μ x y v u P Q, COk K T F μ H → Rep K F x v → Rep K F y u → q x y μ P →
  (∀ d μ' v F' H', Gr F μ H F' μ' H' → COk K T F' μ' H' → Rep K F' d v → P d μ' → Q v H') → r v u H Q
def dOp (q : D → D → Mu → DK → Prop) (f g : DE) (ρ : RE) (μ : Mu) (P : DK) : Prop := f ρ μ fun x μ1 => g ρ μ1 fun y μ2 => q x y μ2 P
theorem he_op {r : R2} {q} {ta tb} (ho : OD X.K r q) (ha : HE X.K W PX ta f) (hb : HE X.K W PX tb g) : HE X.K W PX (tOp r ta tb) (dOp q f g) := by
  intro T wl σ F H ρ μ P Q R hf k
  refine ha T wl σ F H ρ μ _ _ R hf fun x μ1 v F1 H1 g1 c1 r1 q1 => ?_
  refine hb T wl σ F1 H1 ρ μ1 _ _ (R.go g1.ex c1) q1 fun y μ2 u F2 H2 g2 c2 r2 q2 => ?_
  exact ho T F2 H2 μ2 x y v u P Q c2 (r1.mono g2.ex) r2 q2 fun d μ' w F' H' g3 => k d μ' w F' H' ((g1.trans g2).trans g3)
theorem pd_op {op : Operator} {r : R2} {q} (ho : OpR X (binaryOp op) r) (od : OD X.K r q) (ha : PD X W PX a ta f) (hb : PD X W PX b tb g) : PD X W PX (.BinOp a op b pos) (tOp r ta tb) (dOp q f g) :=
  ⟨pe_op ho ha.pe hb.pe, he_op od ha.he hb.he⟩
theorem pd_cmp {op : CmpOp} {r : R2} {q} (ho : OpR X (compareOp op) r) (od : OD X.K r q) (ha : PD X W PX a ta f) (hb : PD X W PX b tb g) (hm : behindInMarks op b = false) : PD X W PX (.Compare a [op] [b] pos) (tOp r ta tb) (dOp q f g) :=
  ⟨pe_cmpR ho ha.pe hb.pe hm, he_op od ha.he hb.he⟩
/-- ints -/
def qI (C : Int → Int → Prop) (o : Int → Int → Int) (x : D) (y : D) (μ : Mu) (P : DK) : Prop := ∃ i j, x = .int i ∧ y = .int j ∧ C i j ∧ P (.int (o i j)) μ
def qB (o : Int → Int → Bool) (x : D) (y : D) (μ : Mu) (P : DK) : Prop := ∃ i j, x = .int i ∧ y = .int j ∧ P (.bl (o i j)) μ
variable {K : PySem.W.Frag}
theorem od_I {C o} : OD K (rI C fun i j => .int (o i j)) (qI C o) := by
  intro T F H μ x y v u P Q c r1 r2 q k
  obtain ⟨i, j, rfl, rfl, hc, p⟩ := q
  exact ⟨i, j, rep_int r1, rep_int r2, hc, k _ μ _ F H .refl c mk_int p⟩
theorem od_I0 {o} : OD K (rI0 fun i j => .int (o i j)) (qI (fun _ _ => True) o) := by
  intro T F H μ x y v u P Q c r1 r2 q k
  obtain ⟨i, j, rfl, rfl, hc, p⟩ := q
  exact ⟨i, j, rep_int r1, rep_int r2, k _ μ _ F H .refl c mk_int p⟩
theorem od_B {o} : OD K (rI0 fun i j => .bl (o i j)) (qB o) := by
  intro T F H μ x y v u P Q c r1 r2 q k
  obtain ⟨i, j, rfl, rfl, p⟩ := q
  exact ⟨i, j, rep_int r1, rep_int r2, k _ μ _ F H .refl c mk_bl p⟩
end
end
section
/-! ### what a thing's items are; data as PyData -/
def seqOf (μ : Mu) : D → Option (List D)
  | .tup ds => some ds
  | .lst ds => some ds
  | .ro ds => some ds
  | .ref a => match μ a with
    | some (.lst ds) => some ds
    | none => none
  | _ => none
mutual
def py : D → Option PyData
  | .non => some .none
  | .bl b => some (.bool b)
  | .int i => some (.int i)
  | .str x => some (.str x)
  | .tup ds => (pys ds).map .tuple
  | .lst ds => (pys ds).map .list
  | .ro ds => (pys ds).map .list
  | .ref _ => none
  | .ty _ => none
  | .exc _ => none
def pys : List D → Option (List PyData)
  | [] => some []
  | d :: ds => (py d).bind fun p => (pys ds).map fun ps => p :: ps
end
def pyM (μ : Mu) : D → Option PyData
  | .ref a => match μ a with
    | some (.lst ds) => (pys ds).map .list
    | none => none
  | d => py d
section
variable {K : PySem.W.Frag} {T : Ent} {F H : Hp} {μ : Mu} {x : D} {v : V} {ds : List D}
mutual
theorem dp_of : ∀ {d : D} {v : V} {p : PyData}, Rep K F d v → py d = some p → Dp K F v p
  | .non, _, _, h, e => by rw [rep_non h]; simp [py] at e; subst e; exact .non
  | .bl b, _, _, h, e => by rw [rep_bl h]; simp [py] at e; subst e; exact .bl b
  | .int b, _, _, h, e => by rw [rep_int h]; simp [py] at e; subst e; exact .int b
  | .str b, _, _, h, e => by rw [rep_str h]; simp [py] at e; subst e; exact .str b
  | .tup ds, _, _, h, e => by
    obtain ⟨a, xs, rfl, h1, h2⟩ := rep_tup h
    unfold py at e
    cases q : pys ds with
    | none => rw [q] at e; cases e
    | some ps =>
      rw [q] at e
      have e' := Option.some.inj e
      subst e'
      exact .tup h1 (dps_of h2 q)
  | .lst ds, _, _, h, e => by
    obtain ⟨a, xs, rfl, h1, h2⟩ := rep_lst h
    unfold py at e
    cases q : pys ds with
    | none => rw [q] at e; cases e
    | some ps =>
      rw [q] at e
      have e' := Option.some.inj e
      subst e'
      exact .lst (.of h1) (dps_of h2 q)
  | .ro ds, _, _, h, e => by
    obtain ⟨a, xs, rfl, h1, h2⟩ := rep_ro h
    unfold py at e
    cases q : pys ds with
    | none => rw [q] at e; cases e
    | some ps =>
      rw [q] at e
      have e' := Option.some.inj e
      subst e'
      exact .lst h1 (dps_of h2 q)
  | .ref _, _, _, _, e => by unfold py at e; cases e
  | .ty _, _, _, _, e => by unfold py at e; cases e
  | .exc _, _, _, _, e => by unfold py at e; cases e
theorem dps_of : ∀ {ds : List D} {vs : List V} {ps : List PyData}, Reps K F ds vs → pys ds = some ps → DpAll K F vs ps
  | [], _, _, h, e => by
    unfold Reps at h
    subst h
    unfold pys at e
    have e' := Option.some.inj e
    subst e'
    exact .nil
  | d :: ds, _, _, h, e => by
    unfold Reps at h
    obtain ⟨v, r, rfl, h2, h3⟩ := h
    unfold pys at e
    cases q : py d with
    | none => rw [q] at e; cases e
    | some p =>
      cases q2 : pys ds with
      | none => rw [q, q2] at e; cases e
      | some ps =>
        rw [q, q2] at e
        have e' := Option.some.inj e
        subst e'
        exact .cons (dp_of h2 q) (dps_of h3 q2)
end
theorem COk.rep {d : D} (c : COk K T F μ H) (h : Rep K F d v) : Rep K H d v := h.mono c.sub
theorem COk.cell {a : Addr} (c : COk K T F μ H) (h : μ a = some (.lst ds)) : F a = none ∧ ∃ vs, H a = some (.lst vs) ∧ Reps K F ds vs := c.cel a _ h
theorem dpM_of {p : PyData} (c : COk K T F μ H) (h : Rep K F x v) (e : pyM μ x = some p) : Dp K H v p := by
  cases x with
  | ref a =>
    rw [rep_ref h]
    unfold pyM at e
    dsimp only at e
    cases q : μ a with
    | none => rw [q] at e; cases e
    | some cc =>
      cases cc with
      | lst ds =>
        rw [q] at e
        obtain ⟨_, vs, h1, h2⟩ := c.cell q
        dsimp only at e
        cases q2 : pys ds with
        | none => rw [q2] at e; cases e
        | some ps =>
          rw [q2] at e
          have e' := Option.some.inj e
          subst e'
          exact .lst (.of h1) (dps_of (h2.mono c.sub) q2)
  | non => exact dp_of (c.rep h) e
  | bl _ => exact dp_of (c.rep h) e
  | int _ => exact dp_of (c.rep h) e
  | str _ => exact dp_of (c.rep h) e
  | tup _ => exact dp_of (c.rep h) e
  | lst _ => exact dp_of (c.rep h) e
  | ro _ => exact dp_of (c.rep h) e
  | ty _ => unfold pyM py at e; cases e
  | exc _ => unfold pyM py at e; cases e
theorem seq_of (c : COk K T F μ H) (h : Rep K F x v) (e : seqOf μ x = some ds) : ∃ a vs, v = .ref a ∧ (SqL K H a vs ∨ SqT K H a vs) ∧ Reps K F ds vs := by
  cases x with
  | tup es =>
    obtain ⟨a, xs, rfl, h1, h2⟩ := rep_tup h
    have e' := Option.some.inj e
    subst e'
    exact ⟨a, xs, rfl, .inr (ex_t c.sub h1), h2⟩
  | lst es =>
    obtain ⟨a, xs, rfl, h1, h2⟩ := rep_lst h
    have e' := Option.some.inj e
    subst e'
    exact ⟨a, xs, rfl, .inl (.of (c.sub _ _ h1)), h2⟩
  | ro es =>
    obtain ⟨a, xs, rfl, h1, h2⟩ := rep_ro h
    have e' := Option.some.inj e
    subst e'
    exact ⟨a, xs, rfl, .inl (ex_l c.sub h1), h2⟩
  | ref a =>
    rw [rep_ref h]
    unfold seqOf at e
    dsimp only at e
    cases q : μ a with
    | none => rw [q] at e; cases e
    | some cc =>
      cases cc with
      | lst es =>
        rw [q] at e
        have e' := Option.some.inj e
        subst e'
        obtain ⟨_, vs, h1, h2⟩ := c.cell q
        exact ⟨a, vs, rfl, .inl (.of h1), h2⟩
  | non => cases e
  | bl _ => cases e
  | int _ => cases e
  | str _ => cases e
  | ty _ => cases e
  | exc _ => cases e
/-- a list (not a tuple) -/
def lstOf (μ : Mu) : D → Option (List D)
  | .lst ds => some ds
  | .ro ds => some ds
  | .ref a => match μ a with
    | some (.lst ds) => some ds
    | none => none
  | _ => none
theorem lst_of (c : COk K T F μ H) (h : Rep K F x v) (e : lstOf μ x = some ds) : ∃ a vs, v = .ref a ∧ SqL K H a vs ∧ Reps K F ds vs := by
  cases x with
  | lst es =>
    obtain ⟨a, xs, rfl, h1, h2⟩ := rep_lst h
    have e' := Option.some.inj e
    subst e'
    exact ⟨a, xs, rfl, .of (c.sub _ _ h1), h2⟩
  | ro es =>
    obtain ⟨a, xs, rfl, h1, h2⟩ := rep_ro h
    have e' := Option.some.inj e
    subst e'
    exact ⟨a, xs, rfl, ex_l c.sub h1, h2⟩
  | ref a =>
    rw [rep_ref h]
    unfold lstOf at e
    dsimp only at e
    cases q : μ a with
    | none => rw [q] at e; cases e
    | some cc =>
      cases cc with
      | lst es =>
        rw [q] at e
        have e' := Option.some.inj e
        subst e'
        obtain ⟨_, vs, h1, h2⟩ := c.cell q
        exact ⟨a, vs, rfl, .of h1, h2⟩
  | tup _ => cases e
  | non => cases e
  | bl _ => cases e
  | int _ => cases e
  | str _ => cases e
  | ty _ => cases e
  | exc _ => cases e
def isOwn : D → Prop
  | .lst _ => True
  | .ref _ => True
  | _ => False
/-- a list that stands in the heap by itself -/
theorem lst_own (c : COk K T F μ H) (h : Rep K F x v) (e : seqOf μ x = some ds) (n : isOwn x) : ∃ a vs, v = .ref a ∧ H a = some (.lst vs) ∧ Reps K F ds vs := by
  cases x with
  | lst es =>
    obtain ⟨a, xs, rfl, h1, h2⟩ := rep_lst h
    have e' := Option.some.inj e
    subst e'
    exact ⟨a, xs, rfl, c.sub _ _ h1, h2⟩
  | ref a =>
    rw [rep_ref h]
    unfold seqOf at e
    dsimp only at e
    cases q : μ a with
    | none => rw [q] at e; cases e
    | some cc =>
      cases cc with
      | lst es =>
        rw [q] at e
        have e' := Option.some.inj e
        subst e'
        obtain ⟨_, vs, h1, h2⟩ := c.cell q
        exact ⟨a, vs, rfl, h1, h2⟩
  | tup _ => exact n.elim
  | ro _ => exact n.elim
  | non => exact n.elim
  | bl _ => exact n.elim
  | int _ => exact n.elim
  | str _ => exact n.elim
  | ty _ => exact n.elim
  | exc _ => exact n.elim
/-- a new object, frozen -/
theorem COk.frz {p : Addr} {o : HO} (c : COk K T F μ H) (hp : H p = none) : COk K T (upd F p o) μ (upd H p o) ∧ Gr F μ H (upd F p o) μ (upd H p o) := by
  have fp : F p = none := Ex.none c.sub hp
  have g : Gr F μ H (upd F p o) μ (upd H p o) := ⟨Ex.new fp, fun a u h f m => by
    have z := ne_of_none h hp
    exact ⟨by rw [upd_ne z]; exact h, by rw [upd_ne z]; exact f, m⟩, th_upd⟩
  refine ⟨⟨c.gr.trans g, c.sub.both, fun a cc e => ?_⟩, g⟩
  obtain ⟨h1, h2⟩ := c.cel a cc e
  obtain ⟨u, h3⟩ := h2.there
  have z := ne_of_none h3 hp
  refine ⟨by rw [upd_ne z]; exact h1, ?_⟩
  cases cc with
  | lst ds =>
    obtain ⟨vs, h4, h5⟩ := h2
    exact ⟨vs, by rw [upd_ne z]; exact h4, h5.mono (Ex.new fp)⟩
/-- a new list, our own -/
theorem COk.new {p : Addr} {vs : List V} (c : COk K T F μ H) (hp : H p = none) (r : Reps K F ds vs) : COk K T F (put μ p (.lst ds)) (upd H p (.lst vs)) ∧ Gr F μ H F (put μ p (.lst ds)) (upd H p (.lst vs)) ∧ μ p = none := by
  have fp : F p = none := Ex.none c.sub hp
  have mp : μ p = none := by
    cases e : μ p with
    | none => rfl
    | some cc =>
      obtain ⟨u, h3⟩ := (c.cel p cc e).2.there
      rw [hp] at h3; cases h3
  have g : Gr F μ H F (put μ p (.lst ds)) (upd H p (.lst vs)) := ⟨Ex.refl F, fun a u h f m => by
    have z := ne_of_none h hp
    exact ⟨by rw [upd_ne z]; exact h, f, by rw [put_ne z]; exact m⟩, th_upd⟩
  refine ⟨⟨c.gr.trans g, c.sub.mut fp, fun a cc e => ?_⟩, g, mp⟩
  by_cases z : a = p
  · subst z
    rw [put_same] at e
    cases e
    exact ⟨fp, vs, upd_same, r⟩
  · rw [put_ne z] at e
    obtain ⟨h1, h2⟩ := c.cel a cc e
    refine ⟨h1, ?_⟩
    cases cc with
    | lst es =>
      obtain ⟨ws, h4, h5⟩ := h2
      exact ⟨ws, by rw [upd_ne z]; exact h4, h5⟩
/-- our own list changed -/
theorem COk.mut {p : Addr} {es : List D} {vs : List V} (c : COk K T F μ H) (hp : μ p = some (.lst es)) (r : Reps K F ds vs) : COk K T F (put μ p (.lst ds)) (upd H p (.lst vs)) ∧ Gr F μ H F (put μ p (.lst ds)) (upd H p (.lst vs)) := by
  obtain ⟨fp, ws, h3, _⟩ := c.cell hp
  have g : Gr F μ H F (put μ p (.lst ds)) (upd H p (.lst vs)) := ⟨Ex.refl F, fun a u h f m => by
    have z : a ≠ p := fun e => by rw [e, hp] at m; cases m
    exact ⟨by rw [upd_ne z]; exact h, f, by rw [put_ne z]; exact m⟩, th_upd⟩
  refine ⟨⟨c.gr.trans g, c.sub.mut fp, fun a cc e => ?_⟩, g⟩
  by_cases z : a = p
  · subst z
    rw [put_same] at e
    cases e
    exact ⟨fp, vs, upd_same, r⟩
  · rw [put_ne z] at e
    obtain ⟨h1, h2⟩ := c.cel a cc e
    refine ⟨h1, ?_⟩
    cases cc with
    | lst es =>
      obtain ⟨ws, h4, h5⟩ := h2
      exact ⟨ws, by rw [upd_ne z]; exact h4, h5⟩
/-- our own list frozen -/
theorem COk.freeze {p : Addr} (c : COk K T F μ H) (hp : μ p = some (.lst ds)) : ∃ F', COk K T F' (del μ p) H ∧ Gr F μ H F' (del μ p) H ∧ Rep K F' (.lst ds) (.ref p) := by
  obtain ⟨fp, ws, h3, h4⟩ := c.cell hp
  have e1 : Ex F (upd F p (.lst ws)) := Ex.new fp
  have g : Gr F μ H (upd F p (.lst ws)) (del μ p) H := ⟨e1, fun a u h f m => by
    have z : a ≠ p := fun e => by rw [e, hp] at m; cases m
    exact ⟨h, by rw [upd_ne z]; exact f, by rw [del_ne z]; exact m⟩, fun _ o h => ⟨o, h⟩⟩
  refine ⟨upd F p (.lst ws), ⟨c.gr.trans g, fun a u e => ?_, fun a cc e => ?_⟩, g, mk_lst upd_same (h4.mono e1)⟩
  · by_cases z : a = p
    · subst z
      rw [upd_same] at e
      cases e
      exact h3
    · rw [upd_ne z] at e
      exact c.sub a u e
  · by_cases z : a = p
    · subst z
      rw [del_same] at e
      cases e
    · rw [del_ne z] at e
      obtain ⟨h1, h2⟩ := c.cel a cc e
      refine ⟨by rw [upd_ne z]; exact h1, ?_⟩
      cases cc with
      | lst es =>
        obtain ⟨ws', h5, h6⟩ := h2
        exact ⟨ws', h5, h6.mono e1⟩
end

theorem line1000 {n : Nat} (h : n ≤ 1000) : n ≤ sizeLine := Nat.le_trans h (by decide)
section
variable {X : Cx} {W : WX} {PX : DX} {a b c : Expr} {ta tb tc : TE} {f g h : DE} {pos : Pos} {es : List Expr} {tas : TA} {fas : DA}
/-! ### arguments, displays -/
def aNil (_ : RE) (μ : Mu) (P : List D → Mu → Prop) : Prop := P [] μ
def aCons (f : DE) (g : DA) (ρ : RE) (μ : Mu) (P : List D → Mu → Prop) : Prop := f ρ μ fun x μ1 => g ρ μ1 fun xs μ2 => P (x :: xs) μ2
theorem da_nil : PDA X W PX [] tNil aNil := ⟨pa_nil, fun T wl σ F H ρ μ P Q R hf k => k [] μ [] F H .refl R.c reps_nil hf⟩
theorem da_cons (ha : PD X W PX a ta f) (hr : PDA X W PX es tas fas) (hs : starEach (a :: es) X.env = (false, eval a X.env) :: starEach es X.env := by rfl) : PDA X W PX (a :: es) (tCons ta tas) (aCons f fas) := by
  refine ⟨pa_cons ha.pe hr.pe hs, fun T wl σ F H ρ μ P Q R hf k => ?_⟩
  refine ha.he T wl σ F H ρ μ _ _ R hf fun x μ1 v F1 H1 g1 c1 r1 q1 => ?_
  refine hr.he T wl σ F1 H1 ρ μ1 _ _ (R.go g1.ex c1) q1 fun xs μ2 vs F2 H2 g2 c2 r2 q2 => ?_
  exact k _ μ2 _ F2 H2 (g1.trans g2) c2 (reps_cons (r1.mono g2.ex) r2) q2
def dTup (f : DA) (ρ : RE) (μ : Mu) (P : DK) : Prop := f ρ μ fun ds μ1 => ds.length ≤ 1000 ∧ P (.tup ds) μ1
def dLst (f : DA) (ρ : RE) (μ : Mu) (P : DK) : Prop := f ρ μ fun ds μ1 => ds.length ≤ 1000 ∧ P (.lst ds) μ1
def dNew (f : DA) (ρ : RE) (μ : Mu) (P : DK) : Prop := f ρ μ fun ds μ1 => ds.length ≤ 1000 ∧ ∀ p, μ1 p = none → P (.ref p) (put μ1 p (.lst ds))
theorem pd_tup {x1} (h : PDA X W PX es tas fas) : PD X W PX (.Tuple es x1 pos) (tTup tas) (dTup fas) := by
  refine ⟨pe_tup h.pe, fun T wl σ F H ρ μ P Q R hf k => ?_⟩
  refine h.he T wl σ F H ρ μ _ _ R hf fun ds μ1 vs F1 H1 g1 c1 r1 q1 => ?_
  refine ⟨line1000 (by rw [← r1.length]; exact q1.1), fun p hp => ?_⟩
  obtain ⟨c2, g2⟩ := c1.frz (o := .tup vs) hp
  exact k _ μ1 _ _ _ (g1.trans g2) c2 (mk_tup (.of upd_same) (r1.mono g2.ex)) q1.2
theorem pd_lst (h : PDA X W PX es tas fas) : PD X W PX (.List es pos) (tLst tas) (dLst fas) := by
  refine ⟨pe_lst h.pe, fun T wl σ F H ρ μ P Q R hf k => ?_⟩
  refine h.he T wl σ F H ρ μ _ _ R hf fun ds μ1 vs F1 H1 g1 c1 r1 q1 => ?_
  refine ⟨line1000 (by rw [← r1.length]; exact q1.1), fun p hp => ?_⟩
  obtain ⟨c2, g2⟩ := c1.frz (o := .lst vs) hp
  exact k _ μ1 _ _ _ (g1.trans g2) c2 (mk_lst upd_same (r1.mono g2.ex)) q1.2
theorem pd_new (h : PDA X W PX es tas fas) : PD X W PX (.List es pos) (tLst tas) (dNew fas) := by
  refine ⟨pe_lst h.pe, fun T wl σ F H ρ μ P Q R hf k => ?_⟩
  refine h.he T wl σ F H ρ μ _ _ R hf fun ds μ1 vs F1 H1 g1 c1 r1 q1 => ?_
  refine ⟨line1000 (by rw [← r1.length]; exact q1.1), fun p hp => ?_⟩
  obtain ⟨c2, g2, mp⟩ := c1.new hp r1
  exact k _ _ _ _ _ (g1.trans g2) c2 mk_ref (q1.2 p mp)
/-- an own list's value told as data: it is frozen -/
def frzQ (x : D) (μ : Mu) (P : DK) : Prop := ∃ p ds, x = .ref p ∧ μ p = some (.lst ds) ∧ P (.lst ds) (del μ p)
def dFrz (f : DE) (ρ : RE) (μ : Mu) (P : DK) : Prop := f ρ μ fun x μ1 => frzQ x μ1 P
theorem pd_frz (h : PD X W PX a ta f) : PD X W PX a ta (dFrz f) := by
  refine ⟨h.pe, fun T wl σ F H ρ μ P Q R hf k => ?_⟩
  refine h.he T wl σ F H ρ μ _ _ R hf fun x μ1 v F1 H1 g1 c1 r1 q1 => ?_
  obtain ⟨p, ds, rfl, hp, q⟩ := q1
  rw [rep_ref r1]
  obtain ⟨F2, c2, g2, r2⟩ := c1.freeze hp
  exact k _ _ _ F2 H1 (g1.trans g2) c2 r2 q

/-! ### operators -/
variable {K : PySem.W.Frag}
def qAdd (x y : D) (μ : Mu) (P : DK) : Prop := match x, y with
  | .int i, .int j => P (.int (i + j)) μ
  | .str i, .str j => i.length + j.length ≤ sizeLine ∧ P (.str (i ++ j)) μ
  | .tup xs, .tup ys => xs ≠ [] ∧ xs.length + ys.length ≤ sizeLine ∧ P (.tup (xs ++ ys)) μ
  | x, y => isOwn x ∧ isOwn y ∧ ∃ xs ys, seqOf μ x = some xs ∧ seqOf μ y = some ys ∧ xs.length + ys.length ≤ sizeLine ∧ P (.lst (xs ++ ys)) μ
def rAddS : R2 := fun x y H Q => ∃ i j, x = .str i ∧ y = .str j ∧ i.length + j.length ≤ sizeLine ∧ Q (.str (i ++ j)) H
def rAddI : R2 := rI0 fun i j => .int (i + j)
def rPlus (K : PySem.W.Frag) : R2 := fun x y H Q => rAddI x y H Q ∨ rAddS x y H Q ∨ rCatT K x y H Q ∨ rCat x y H Q
theorem op_plus : OpR X (binaryOp .Add) (rPlus X.K) := OpR.or op_add (OpR.or op_add_str (OpR.or op_catT op_cat))
theorem od_plus : OD K (rPlus K) qAdd := by
  intro T F H μ x y v u P Q c r1 r2 q k
  have cat : ∀ xs ys, isOwn x → isOwn y → seqOf μ x = some xs → seqOf μ y = some ys → xs.length + ys.length ≤ sizeLine → P (.lst (xs ++ ys)) μ → rPlus K v u H Q := by
    intro xs ys n1 n2 e1 e2 hl p
    obtain ⟨a, vs, rfl, h1, h2⟩ := lst_own c r1 e1 n1
    obtain ⟨b, ws, rfl, h3, h4⟩ := lst_own c r2 e2 n2
    refine .inr (.inr (.inr ⟨a, b, vs, ws, rfl, rfl, h1, h3, by rw [← h2.length, ← h4.length]; exact hl, fun p' hp => ?_⟩))
    obtain ⟨c2, g2⟩ := c.frz (o := .lst (vs ++ ws)) hp
    exact k _ _ _ _ _ g2 c2 (mk_lst upd_same ((h2.app h4).mono g2.ex)) p
  unfold qAdd at q
  split at q
  · exact .inl ⟨_, _, rep_int r1, rep_int r2, k _ _ _ _ _ .refl c mk_int q⟩
  · exact .inr (.inl ⟨_, _, rep_str r1, rep_str r2, q.1, k _ _ _ _ _ .refl c mk_str q.2⟩)
  · rename_i xs ys
    obtain ⟨n, hl, p⟩ := q
    obtain ⟨a, vs, rfl, h1, h2⟩ := rep_tup r1
    obtain ⟨b, ws, rfl, h3, h4⟩ := rep_tup r2
    refine .inr (.inr (.inl ⟨a, b, vs, ws, rfl, rfl, ex_t c.sub h1, ex_t c.sub h3, fun z => ?_, by rw [← h2.length, ← h4.length]; exact hl, fun z => ?_, fun z p' hp => ?_⟩))
    · subst z
      have := h2.length
      simp at this
      exact n this
    · subst z
      have e : ys = [] := by
        have := h4.length
        simpa using this
      subst e
      refine k _ _ _ _ _ .refl c r1 ?_
      simpa using p
    · obtain ⟨c2, g2⟩ := c.frz (o := .tup (vs ++ ws)) hp
      exact k _ _ _ _ _ g2 c2 (mk_tup (.of upd_same) ((h2.app h4).mono g2.ex)) p
  · obtain ⟨n1, n2, xs, ys, e1, e2, hl, p⟩ := q
    exact cat xs ys n1 n2 e1 e2 hl p
theorem pd_add (ha : PD X W PX a ta f) (hb : PD X W PX b tb g) : PD X W PX (.BinOp a .Add b pos) (tOp (rPlus X.K) ta tb) (dOp qAdd f g) := pd_op op_plus od_plus ha hb
def qSub (x : D) (y : D) (μ : Mu) (P : DK) : Prop := (qI (fun _ _ => True) fun i j => i - j) x y μ P
theorem pd_sub (ha : PD X W PX a ta f) (hb : PD X W PX b tb g) : PD X W PX (.BinOp a .Sub b pos) (tOp (rI0 fun i j => .int (i - j)) ta tb) (dOp qSub f g) := pd_op op_sub od_I0 ha hb
/-- below 2 ^ n in size -/
def Bd (n : Nat) (i : Int) : Prop := i.natAbs < 2 ^ n
def MulC (i j : Int) : Prop := ∃ m n, Bd m i ∧ Bd n j ∧ m + n ≤ 1000000
def DivC (_ j : Int) : Prop := j ≠ 0 ∧ Bd 9000 j
theorem bits_le {n : Nat} {i : Int} (h : Bd n i) : Builtin.Int.intBits i ≤ n := by
  unfold Builtin.Int.intBits
  split
  · omega
  · rename_i hz
    have h0 : i.natAbs ≠ 0 := by
      intro z
      apply hz
      have : i = 0 := Int.natAbs_eq_zero.mp z
      subst this
      rfl
    have := (Nat.log2_lt h0).mpr h
    omega
theorem op_mulB : OpR X (binaryOp .Mult) (rI MulC fun i j => .int (i * j)) := opI fun i j _ _ _ _ _ hc q => by
  obtain ⟨m, n, h1, h2, h3⟩ := hc
  exact mul_int q (.of_bits (Nat.le_trans (bits_le h1) (by omega)) (Nat.le_trans (bits_le h2) (by omega)))
theorem op_divB : OpR X (binaryOp .FloorDiv) (rI DivC fun i j => .int (i.fdiv j)) := opI fun i j _ _ _ _ _ hc q => by
  refine floordiv_int hc.1 q (.inl (PyProof.noPylong_of_log2 ?_))
  have h0 : j.natAbs ≠ 0 := fun z => hc.1 (Int.natAbs_eq_zero.mp z)
  exact (Nat.log2_lt h0).mpr hc.2
def qMul (x : D) (y : D) (μ : Mu) (P : DK) : Prop := (qI MulC fun i j => i * j) x y μ P
def qDiv (x : D) (y : D) (μ : Mu) (P : DK) : Prop := (qI DivC fun i j => i.fdiv j) x y μ P
def qMod (x : D) (y : D) (μ : Mu) (P : DK) : Prop := (qI (fun _ j => j ≠ 0) fun i j => i.fmod j) x y μ P
theorem pd_mul (ha : PD X W PX a ta f) (hb : PD X W PX b tb g) : PD X W PX (.BinOp a .Mult b pos) (tOp (rI MulC fun i j => .int (i * j)) ta tb) (dOp qMul f g) := pd_op op_mulB od_I ha hb
theorem pd_div (ha : PD X W PX a ta f) (hb : PD X W PX b tb g) : PD X W PX (.BinOp a .FloorDiv b pos) (tOp (rI DivC fun i j => .int (i.fdiv j)) ta tb) (dOp qDiv f g) := pd_op op_divB od_I ha hb
theorem pd_mod (ha : PD X W PX a ta f) (hb : PD X W PX b tb g) : PD X W PX (.BinOp a .Mod b pos) (tOp (rI (fun _ j => j ≠ 0) fun i j => .int (i.fmod j)) ta tb) (dOp qMod f g) := pd_op op_modN od_I ha hb
def PowC (i j : Int) : Prop := 0 ≤ j ∧ ∃ n, Bd n i ∧ (n : Int) * j ≤ 2 ^ 27
theorem op_powB : OpR X (binaryOp .Pow) (rI PowC fun i j => .int (i ^ j.toNat)) := opI fun i j _ _ _ _ _ hc q => by
  obtain ⟨h0, n, h1, h2⟩ := hc
  refine pow_int h0 (Int.le_trans (Int.mul_le_mul_of_nonneg_right ?_ h0) h2) q
  have := bits_le h1
  omega
def qPow (x : D) (y : D) (μ : Mu) (P : DK) : Prop := (qI PowC fun i j => i ^ j.toNat) x y μ P
theorem pd_pow (ha : PD X W PX a ta f) (hb : PD X W PX b tb g) : PD X W PX (.BinOp a .Pow b pos) (tOp (rI PowC fun i j => .int (i ^ j.toNat)) ta tb) (dOp qPow f g) := pd_op op_powB od_I ha hb
def dNeg (f : DE) (ρ : RE) (μ : Mu) (P : DK) : Prop := f ρ μ fun x μ1 => ∃ i, x = .int i ∧ P (.int (-i)) μ1
theorem pd_neg (ha : PD X W PX a ta f) : PD X W PX (.UnaryOp .USub a pos) (tUn (rU fun i => .int (-i)) ta) (dNeg f) := by
  refine ⟨pe_un un_neg ha.pe, fun T wl σ F H ρ μ P Q R hf k => ?_⟩
  refine ha.he T wl σ F H ρ μ _ _ R hf fun x μ1 v F1 H1 g1 c1 r1 q1 => ?_
  obtain ⟨i, rfl, q⟩ := q1
  exact ⟨i, rep_int r1, k _ _ _ _ _ g1 c1 mk_int q⟩
/-! ### comparisons -/
def qLt (x : D) (y : D) (μ : Mu) (P : DK) : Prop := (qB fun i j => decide (i < j)) x y μ P
def qLe (x : D) (y : D) (μ : Mu) (P : DK) : Prop := (qB fun i j => decide (i ≤ j)) x y μ P
def qGt (x : D) (y : D) (μ : Mu) (P : DK) : Prop := (qB fun i j => decide (j < i)) x y μ P
def qGe (x : D) (y : D) (μ : Mu) (P : DK) : Prop := (qB fun i j => decide (j ≤ i)) x y μ P
theorem pd_lt (ha : PD X W PX a ta f) (hb : PD X W PX b tb g) : PD X W PX (.Compare a [.Lt] [b] pos) (tOp (rI0 fun i j => .bl (decide (i < j))) ta tb) (dOp qLt f g) := pd_cmp op_lt od_B ha hb (nomark _)
theorem pd_le (ha : PD X W PX a ta f) (hb : PD X W PX b tb g) : PD X W PX (.Compare a [.LtE] [b] pos) (tOp (rI0 fun i j => .bl (decide (i ≤ j))) ta tb) (dOp qLe f g) := pd_cmp op_le od_B ha hb (nomark _)
theorem pd_gt (ha : PD X W PX a ta f) (hb : PD X W PX b tb g) : PD X W PX (.Compare a [.Gt] [b] pos) (tOp (rI0 fun i j => .bl (decide (j < i))) ta tb) (dOp qGt f g) := pd_cmp op_gt od_B ha hb (nomark _)
theorem pd_ge (ha : PD X W PX a ta f) (hb : PD X W PX b tb g) : PD X W PX (.Compare a [.GtE] [b] pos) (tOp (rI0 fun i j => .bl (decide (j ≤ i))) ta tb) (dOp qGe f g) := pd_cmp op_ge od_B ha hb (nomark _)
def qEq (x : D) (y : D) (μ : Mu) (P : DK) : Prop := ∃ p q, pyM μ x = some p ∧ pyM μ y = some q ∧ SeqAt.shaped p = true ∧ SeqAt.shaped q = true ∧ P (.bl (PyData.eqv p q)) μ
def qNe (x : D) (y : D) (μ : Mu) (P : DK) : Prop := ∃ p q, pyM μ x = some p ∧ pyM μ y = some q ∧ SeqAt.shaped p = true ∧ SeqAt.shaped q = true ∧ P (.bl (!PyData.eqv p q)) μ
theorem od_eq : OD K (rEqD K) qEq := by
  intro T F H μ x y v u P Q c r1 r2 q k
  obtain ⟨p, p', e1, e2, s1, s2, q⟩ := q
  exact ⟨p, p', dpM_of c r1 e1, dpM_of c r2 e2, s1, s2, k _ _ _ _ _ .refl c mk_bl q⟩
theorem od_ne : OD K (rNeD K) qNe := by
  intro T F H μ x y v u P Q c r1 r2 q k
  obtain ⟨p, p', e1, e2, s1, s2, q⟩ := q
  exact ⟨p, p', dpM_of c r1 e1, dpM_of c r2 e2, s1, s2, k _ _ _ _ _ .refl c mk_bl q⟩
theorem pd_eq (hu : X.A.units + 64 < cLine) (ha : PD X W PX a ta f) (hb : PD X W PX b tb g) : PD X W PX (.Compare a [.Eq] [b] pos) (tOp (rEqD X.K) ta tb) (dOp qEq f g) := pd_cmp (op_eqD hu) od_eq ha hb (nomark _)
theorem pd_ne (hu : X.A.units + 64 < cLine) (ha : PD X W PX a ta f) (hb : PD X W PX b tb g) : PD X W PX (.Compare a [.NotEq] [b] pos) (tOp (rNeD X.K) ta tb) (dOp qNe f g) := pd_cmp (op_neD hu) od_ne ha hb (nomark _)
def isNon : D → Bool
  | .non => true
  | _ => false
theorem isNon_iff {F : Hp} {x : D} {v : V} (r : Rep K F x v) : decide (v = .non) = isNon x := by
  cases x with
  | non => rw [rep_non r]; rfl
  | bl _ => rw [rep_bl r]; rfl
  | int _ => rw [rep_int r]; rfl
  | str _ => rw [rep_str r]; rfl
  | ref _ => rw [rep_ref r]; rfl
  | ty _ => unfold Rep at r; rw [r]; rfl
  | exc _ => obtain ⟨a, rfl, _⟩ := rep_exc r; rfl
  | tup _ => obtain ⟨a, xs, rfl, _⟩ := rep_tup r; rfl
  | lst _ => obtain ⟨a, xs, rfl, _⟩ := rep_lst r; rfl
  | ro _ => obtain ⟨a, xs, rfl, _⟩ := rep_ro r; rfl
def qIs (x : D) (y : D) (μ : Mu) (P : DK) : Prop := y = .non ∧ P (.bl (isNon x)) μ
def qIsNot (x : D) (y : D) (μ : Mu) (P : DK) : Prop := y = .non ∧ P (.bl (!isNon x)) μ
def rIsN' : R2 := fun x y H Q => y = .non ∧ Q (.bl (decide (x = .non))) H
def rNotN' : R2 := fun x y H Q => y = .non ∧ Q (.bl (!decide (x = .non))) H
theorem pd_is (ha : PD X W PX a ta f) (hb : PD X W PX b tb g) : PD X W PX (.Compare a [.Is] [b] pos) (tOp rIsN' ta tb) (dOp qIs f g) := by
  refine pd_cmp (r := rIsN') op_isN ?_ ha hb (nomark _)
  intro T F H μ x y v u P Q c r1 r2 q k
  obtain ⟨rfl, q⟩ := q
  exact ⟨rep_non r2, by rw [isNon_iff r1]; exact k _ _ _ _ _ .refl c mk_bl q⟩
theorem pd_isnot (ha : PD X W PX a ta f) (hb : PD X W PX b tb g) : PD X W PX (.Compare a [.IsNot] [b] pos) (tOp rNotN' ta tb) (dOp qIsNot f g) := by
  refine pd_cmp (r := rNotN') op_notN ?_ ha hb (nomark _)
  intro T F H μ x y v u P Q c r1 r2 q k
  obtain ⟨rfl, q⟩ := q
  exact ⟨rep_non r2, by rw [isNon_iff r1]; exact k _ _ _ _ _ .refl c mk_bl q⟩
/-- membership in a sequence of flat things -/
def flatD : D → Bool
  | .non => true
  | .bl _ => true
  | .int _ => true
  | .str _ => true
  | _ => false
end
end
section
section
variable {X : Cx} {W : WX} {PX : DX} {a b c e : Expr} {ta tb tc te : TE} {f g h : DE} {pos : Pos} {es rest : List Expr} {tas : TA} {fas : DA} {tt tu : TT} {p q : DT} {K : PySem.W.Frag}
/-! ### tests -/
def dB (f : DE) (ρ : RE) (μ : Mu) (P : Bool → Mu → Prop) : Prop := f ρ μ fun x μ1 => ∃ k, x = .bl k ∧ P k μ1
theorem pt_b (h : PD X W PX e te f) (he : ∀ whole, isTrue e X.env whole = (do let v ← whole; standAt e.pos; holding [v] (truthy v)) := by intro _; rfl) : PDT X W PX e (tB te) (dB f) := by
  refine ⟨pt_val h.pe he, fun T wl σ F H ρ μ P Q R hf k => ?_⟩
  refine h.he T wl σ F H ρ μ _ _ R hf fun x μ1 v F1 H1 g1 c1 r1 q1 => ?_
  obtain ⟨b, rfl, q⟩ := q1
  exact ⟨b, rep_bl r1, k b μ1 F1 H1 g1 c1 q⟩
/-- a comparison as a test -/
theorem pt_c {op : CmpOp} {r : R2} {q} (ho : OpR X (compareOp op) r) (od : OD X.K r q) (ha : PD X W PX a ta f) (hb : PD X W PX b tb g) (hm : behindInMarks op b = false) : PDT X W PX (.Compare a [op] [b] pos) (tTest (tOp r ta tb)) (dB (dOp q f g)) := by
  refine ⟨pt_cmpR ho ha.pe hb.pe hm, fun T wl σ F H ρ μ P Q R hf k => ?_⟩
  refine he_op od ha.he hb.he T wl σ F H ρ μ _ _ R hf fun x μ1 v F1 H1 g1 c1 r1 q1 => ?_
  obtain ⟨b, rfl, q⟩ := q1
  exact ⟨b, rep_bl r1, k b μ1 F1 H1 g1 c1 q⟩
theorem pt_lt (ha : PD X W PX a ta f) (hb : PD X W PX b tb g) : PDT X W PX (.Compare a [.Lt] [b] pos) (tTest (tOp (rI0 fun i j => .bl (decide (i < j))) ta tb)) (dB (dOp qLt f g)) := pt_c op_lt od_B ha hb (nomark _)
theorem pt_le (ha : PD X W PX a ta f) (hb : PD X W PX b tb g) : PDT X W PX (.Compare a [.LtE] [b] pos) (tTest (tOp (rI0 fun i j => .bl (decide (i ≤ j))) ta tb)) (dB (dOp qLe f g)) := pt_c op_le od_B ha hb (nomark _)
theorem pt_gt (ha : PD X W PX a ta f) (hb : PD X W PX b tb g) : PDT X W PX (.Compare a [.Gt] [b] pos) (tTest (tOp (rI0 fun i j => .bl (decide (j < i))) ta tb)) (dB (dOp qGt f g)) := pt_c op_gt od_B ha hb (nomark _)
theorem pt_ge (ha : PD X W PX a ta f) (hb : PD X W PX b tb g) : PDT X W PX (.Compare a [.GtE] [b] pos) (tTest (tOp (rI0 fun i j => .bl (decide (j ≤ i))) ta tb)) (dB (dOp qGe f g)) := pt_c op_ge od_B ha hb (nomark _)
theorem pt_eq (hu : X.A.units + 64 < cLine) (ha : PD X W PX a ta f) (hb : PD X W PX b tb g) : PDT X W PX (.Compare a [.Eq] [b] pos) (tTest (tOp (rEqD X.K) ta tb)) (dB (dOp qEq f g)) := pt_c (op_eqD hu) od_eq ha hb (nomark _)
theorem pt_ne (hu : X.A.units + 64 < cLine) (ha : PD X W PX a ta f) (hb : PD X W PX b tb g) : PDT X W PX (.Compare a [.NotEq] [b] pos) (tTest (tOp (rNeD X.K) ta tb)) (dB (dOp qNe f g)) := pt_c (op_neD hu) od_ne ha hb (nomark _)
theorem od_is : OD K rIsN' qIs := by
  intro T F H μ x y v u P Q c r1 r2 q k
  obtain ⟨rfl, q⟩ := q
  exact ⟨rep_non r2, by rw [isNon_iff r1]; exact k _ _ _ _ _ .refl c mk_bl q⟩
theorem od_isnot : OD K rNotN' qIsNot := by
  intro T F H μ x y v u P Q c r1 r2 q k
  obtain ⟨rfl, q⟩ := q
  exact ⟨rep_non r2, by rw [isNon_iff r1]; exact k _ _ _ _ _ .refl c mk_bl q⟩
theorem pt_is (ha : PD X W PX a ta f) (hb : PD X W PX b tb g) : PDT X W PX (.Compare a [.Is] [b] pos) (tTest (tOp rIsN' ta tb)) (dB (dOp qIs f g)) := pt_c (r := rIsN') op_isN od_is ha hb (nomark _)
theorem pt_isnot (ha : PD X W PX a ta f) (hb : PD X W PX b tb g) : PDT X W PX (.Compare a [.IsNot] [b] pos) (tTest (tOp rNotN' ta tb)) (dB (dOp qIsNot f g)) := pt_c (r := rNotN') op_notN od_isnot ha hb (nomark _)
def dAnd (p q : DT) (ρ : RE) (μ : Mu) (P : Bool → Mu → Prop) : Prop := p ρ μ fun k μ1 => if k = true then q ρ μ1 P else P false μ1
def dOr (p q : DT) (ρ : RE) (μ : Mu) (P : Bool → Mu → Prop) : Prop := p ρ μ fun k μ1 => if k = true then P true μ1 else q ρ μ1 P
def dNot (p : DT) (ρ : RE) (μ : Mu) (P : Bool → Mu → Prop) : Prop := p ρ μ fun k μ1 => P (!k) μ1
theorem dw_and1 (ha : PDT X W PX a tt p) : PDW X W PX (.BoolOp .And [a] pos) tt p := ⟨pw_and1 ha.pe, ha.he⟩
theorem dw_or1 (ha : PDT X W PX a tt p) : PDW X W PX (.BoolOp .Or [a] pos) tt p := ⟨pw_or1 ha.pe, ha.he⟩
theorem ht_and (ha : HT K W PX tt p) (hb : HT K W PX tu q) : HT K W PX (tAnd tt tu) (dAnd p q) := by
  intro T wl σ F H ρ μ P Q R hf k
  refine ha T wl σ F H ρ μ _ _ R hf fun x μ1 F1 H1 g1 c1 q1 => ?_
  cases x with
  | true =>
    rw [if_pos rfl] at q1
    show (if true = true then tu σ H1 Q else Q false H1)
    rw [if_pos rfl]
    exact hb T wl σ F1 H1 ρ μ1 P Q (R.go g1.ex c1) q1 fun b μ2 F2 H2 g2 => k b μ2 F2 H2 (g1.trans g2)
  | false =>
    rw [if_neg Bool.false_ne_true] at q1
    show (if false = true then tu σ H1 Q else Q false H1)
    rw [if_neg Bool.false_ne_true]
    exact k _ _ _ _ g1 c1 q1
theorem ht_or (ha : HT K W PX tt p) (hb : HT K W PX tu q) : HT K W PX (tOr tt tu) (dOr p q) := by
  intro T wl σ F H ρ μ P Q R hf k
  refine ha T wl σ F H ρ μ _ _ R hf fun x μ1 F1 H1 g1 c1 q1 => ?_
  cases x with
  | false =>
    rw [if_neg Bool.false_ne_true] at q1
    show (if false = true then Q true H1 else tu σ H1 Q)
    rw [if_neg Bool.false_ne_true]
    exact hb T wl σ F1 H1 ρ μ1 P Q (R.go g1.ex c1) q1 fun b μ2 F2 H2 g2 => k b μ2 F2 H2 (g1.trans g2)
  | true =>
    rw [if_pos rfl] at q1
    show (if true = true then Q true H1 else tu σ H1 Q)
    rw [if_pos rfl]
    exact k _ _ _ _ g1 c1 q1
theorem dw_and (ha : PDT X W PX a tt p) (hb : PDW X W PX (.BoolOp .And (b :: rest) pos) tu q) : PDW X W PX (.BoolOp .And (a :: b :: rest) pos) (tAnd tt tu) (dAnd p q) := ⟨pw_and ha.pe hb.pe, ht_and ha.he hb.he⟩
theorem dw_or (ha : PDT X W PX a tt p) (hb : PDW X W PX (.BoolOp .Or (b :: rest) pos) tu q) : PDW X W PX (.BoolOp .Or (a :: b :: rest) pos) (tOr tt tu) (dOr p q) := ⟨pw_or ha.pe hb.pe, ht_or ha.he hb.he⟩
theorem pt_w (h : PDW X W PX e tt p) : PDT X W PX e tt p := ⟨h.pe.pt, h.he⟩
theorem pt_n (ha : PDT X W PX a tt p) : PDT X W PX (.UnaryOp .Not a pos) (tNot tt) (dNot p) := ⟨pt_not ha.pe, fun T wl σ F H ρ μ P Q R hf k => ha.he T wl σ F H ρ μ _ _ R hf fun x μ1 F1 H1 g1 c1 q1 => k _ _ _ _ g1 c1 q1⟩
/-! ### .. as values -/
def dAndV (f g : DE) (ρ : RE) (μ : Mu) (P : DK) : Prop := f ρ μ fun x μ1 => ∃ k, x = .bl k ∧ if k = true then g ρ μ1 P else P (.bl false) μ1
def dOrV (f g : DE) (ρ : RE) (μ : Mu) (P : DK) : Prop := f ρ μ fun x μ1 => ∃ k, x = .bl k ∧ if k = true then P (.bl true) μ1 else g ρ μ1 P
def dNotV (f : DE) (ρ : RE) (μ : Mu) (P : DK) : Prop := f ρ μ fun x μ1 => ∃ k, x = .bl k ∧ P (.bl (!k)) μ1
theorem pd_one {op} (h : PD X W PX a ta f) : PD X W PX (.BoolOp op [a] pos) ta f := ⟨pe_one h.pe, h.he⟩
theorem pd_and (ha : PD X W PX a ta f) (hb : PD X W PX (.BoolOp .And (b :: rest) pos) tb g) : PD X W PX (.BoolOp .And (a :: b :: rest) pos) (tAndV ta tb) (dAndV f g) := by
  refine ⟨pe_and ha.pe hb.pe, fun T wl σ F H ρ μ P Q R hf k => ?_⟩
  refine ha.he T wl σ F H ρ μ _ _ R hf fun x μ1 v F1 H1 g1 c1 r1 q1 => ?_
  obtain ⟨z, rfl, q⟩ := q1
  refine ⟨z, rep_bl r1, ?_⟩
  cases z with
  | true =>
    rw [if_pos rfl] at q
    rw [if_pos rfl]
    exact hb.he T wl σ F1 H1 ρ μ1 P Q (R.go g1.ex c1) q fun d μ2 v F2 H2 g2 => k d μ2 v F2 H2 (g1.trans g2)
  | false =>
    rw [if_neg Bool.false_ne_true] at q
    rw [if_neg Bool.false_ne_true]
    exact k _ _ _ _ _ g1 c1 mk_bl q
theorem pd_or (ha : PD X W PX a ta f) (hb : PD X W PX (.BoolOp .Or (b :: rest) pos) tb g) : PD X W PX (.BoolOp .Or (a :: b :: rest) pos) (tOrV ta tb) (dOrV f g) := by
  refine ⟨pe_or ha.pe hb.pe, fun T wl σ F H ρ μ P Q R hf k => ?_⟩
  refine ha.he T wl σ F H ρ μ _ _ R hf fun x μ1 v F1 H1 g1 c1 r1 q1 => ?_
  obtain ⟨z, rfl, q⟩ := q1
  refine ⟨z, rep_bl r1, ?_⟩
  cases z with
  | false =>
    rw [if_neg Bool.false_ne_true] at q
    rw [if_neg Bool.false_ne_true]
    exact hb.he T wl σ F1 H1 ρ μ1 P Q (R.go g1.ex c1) q fun d μ2 v F2 H2 g2 => k d μ2 v F2 H2 (g1.trans g2)
  | true =>
    rw [if_pos rfl] at q
    rw [if_pos rfl]
    exact k _ _ _ _ _ g1 c1 mk_bl q
theorem pd_not (ha : PD X W PX a ta f) : PD X W PX (.UnaryOp .Not a pos) (tNotV ta) (dNotV f) := by
  refine ⟨pe_not ha.pe, fun T wl σ F H ρ μ P Q R hf k => ?_⟩
  refine ha.he T wl σ F H ρ μ _ _ R hf fun x μ1 v F1 H1 g1 c1 r1 q1 => ?_
  obtain ⟨z, rfl, q⟩ := q1
  exact ⟨z, rep_bl r1, k _ _ _ _ _ g1 c1 mk_bl q⟩
def dIf (p : DT) (f g : DE) (ρ : RE) (μ : Mu) (P : DK) : Prop := p ρ μ fun k μ1 => if k = true then f ρ μ1 P else g ρ μ1 P
theorem pd_if (hc : PDT X W PX c tt p) (ha : PD X W PX a ta f) (hb : PD X W PX b tb g) : PD X W PX (.IfExp c a b pos) (tIf tt ta tb) (dIf p f g) := by
  refine ⟨pe_ifExp hc.pe ha.pe hb.pe, fun T wl σ F H ρ μ P Q R hf k => ?_⟩
  refine hc.he T wl σ F H ρ μ _ _ R hf fun x μ1 F1 H1 g1 c1 q1 => ?_
  cases x with
  | true =>
    rw [if_pos rfl] at q1
    rw [if_pos rfl]
    exact ha.he T wl σ F1 H1 ρ μ1 P Q (R.go g1.ex c1) q1 fun d μ2 v F2 H2 g2 => k d μ2 v F2 H2 (g1.trans g2)
  | false =>
    rw [if_neg Bool.false_ne_true] at q1
    rw [if_neg Bool.false_ne_true]
    exact hb.he T wl σ F1 H1 ρ μ1 P Q (R.go g1.ex c1) q1 fun d μ2 v F2 H2 g2 => k d μ2 v F2 H2 (g1.trans g2)
/-! ### items, slices, lengths -/
theorem reps_at {F : Hp} {ds : List D} {vs : List V} {i : Int} {d : D} (r : Reps K F ds vs) (h : atI ds i = some d) : ∃ v, atI vs i = some v ∧ Rep K F d v := by
  unfold atI at h ⊢
  rw [← r.length]
  cases e : ixN ds.length i with
  | none => rw [e] at h; cases h
  | some j =>
    rw [e] at h
    exact r.get (show ds[j]? = some d from h)
def qIx (x y : D) (μ : Mu) (P : DK) : Prop := match x with
  | .str z => ∃ i c, y = .int i ∧ z.length ≤ sizeLine ∧ atI z.cps.toList i = some c ∧ P (.str ⟨#[c]⟩) μ
  | x => ∃ i ds d, y = .int i ∧ seqOf μ x = some ds ∧ atI ds i = some d ∧ P d μ
theorem od_ix : OD K (rIx K) qIx := by
  intro T F H μ x y v u P Q c r1 r2 q k
  unfold qIx at q
  split at q
  · obtain ⟨i, cc, rfl, h1, h2, p⟩ := q
    exact .inr (.inr ⟨_, i, cc, rep_str r1, rep_int r2, h1, h2, k _ _ _ _ _ .refl c mk_str p⟩)
  · obtain ⟨i, ds, d, rfl, h1, h2, p⟩ := q
    obtain ⟨a, vs, rfl, hs, r⟩ := seq_of c r1 h1
    obtain ⟨w, e, rw'⟩ := reps_at r h2
    rcases hs with hs | hs
    · exact .inl ⟨a, vs, i, w, rfl, rep_int r2, hs, e, k _ _ _ _ _ .refl c rw' p⟩
    · exact .inr (.inl ⟨a, vs, i, w, rfl, rep_int r2, hs, e, k _ _ _ _ _ .refl c rw' p⟩)
theorem pd_ix (ha : PD X W PX a ta f) (hb : PD X W PX b tb g) (hs : PlainIx b := by intro _ _; rfl) : PD X W PX (.Subscript a b pos) (tOp (rIx X.K) ta tb) (dOp qIx f g) :=
  ⟨pe_ix ix_seq ha.pe hb.pe hs, he_op od_ix ha.he hb.he⟩
def cutL {α : Type} (xs : List α) (lo hi : Option Int) : List α := (xs.drop (HT.sIx xs.length 0 lo)).take (HT.sIx xs.length xs.length hi - HT.sIx xs.length 0 lo)
theorem reps_cut {F : Hp} {ds : List D} {vs : List V} {lo hi : Option Int} (r : Reps K F ds vs) : Reps K F (cutL ds lo hi) (cutV vs lo hi) := by
  unfold cutL cutV
  rw [r.length]
  exact (r.drop _).take _
abbrev DO := RE → Mu → (Option Int → Mu → Prop) → Prop
def HO' (K : PySem.W.Frag) (W : WX) (PX : DX) (to : TO) (f : DO) : Prop := ∀ T, WL K T PX W → ∀ σ F H ρ μ P (Q : Option Int → Hp → Prop), ROk K T ρ μ σ F H → f ρ μ P →
  (∀ o μ' F' H', Gr F μ H F' μ' H' → COk K T F' μ' H' → P o μ' → Q o H') → to σ H Q
structure PDO (X : Cx) (W : WX) (PX : DX) (e : Option Expr) (t : TO) (f : DO) : Prop where
  pe : PO X e t
  he : HO' X.K W PX t f
def oNone (_ : RE) (μ : Mu) (P : Option Int → Mu → Prop) : Prop := P none μ
def oSome (f : DE) (ρ : RE) (μ : Mu) (P : Option Int → Mu → Prop) : Prop := f ρ μ fun x μ1 => ∃ i, x = .int i ∧ P (some i) μ1
theorem do_none : PDO X W PX none tNoPart oNone := ⟨po_none, fun T wl σ F H ρ μ P Q R hf k => k none μ F H .refl R.c hf⟩
theorem do_some (h : PD X W PX e te f) : PDO X W PX (some e) (tPart te) (oSome f) := by
  refine ⟨po_some h.pe, fun T wl σ F H ρ μ P Q R hf k => ?_⟩
  refine h.he T wl σ F H ρ μ _ _ R hf fun x μ1 v F1 H1 g1 c1 r1 q1 => ?_
  obtain ⟨i, rfl, q⟩ := q1
  exact ⟨i, rep_int r1, k _ _ _ _ g1 c1 q⟩
/-- a part of a list (a new list), of a tuple (not the whole) -/
def qCut (x : D) (lo hi : Option Int) (μ : Mu) (P : DK) : Prop := match x with
  | .tup ds => ¬ (HT.sIx ds.length 0 lo = 0 ∧ HT.sIx ds.length ds.length hi = ds.length) ∧ P (.tup (cutL ds lo hi)) μ
  | x => ∃ ds, lstOf μ x = some ds ∧ P (.lst (cutL ds lo hi)) μ
def dCut (f : DE) (l h : DO) (ρ : RE) (μ : Mu) (P : DK) : Prop := f ρ μ fun x μ1 => l ρ μ1 fun lo μ2 => h ρ μ2 fun hi μ3 => qCut x lo hi μ3 P
def rCut (K : PySem.W.Frag) : V → Option Int → Option Int → Hp → VK → Prop := fun x lo hi H Q => rSlL K x lo hi H Q ∨ rSlT K x lo hi H Q
theorem pd_cut {lo hi : Option Expr} {tl th : TO} {l h : DO} {p2} (he : PD X W PX e te f) (hl : PDO X W PX lo tl l) (hh : PDO X W PX hi th h) : PD X W PX (.Subscript e (.Slice lo hi none p2) pos) (tSl (rCut X.K) te tl th) (dCut f l h) := by
  refine ⟨pe_slice (SlR.or sl_list sl_tup) he.pe hl.pe hh.pe, fun T wl σ F H ρ μ P Q R hf k => ?_⟩
  refine he.he T wl σ F H ρ μ _ _ R hf fun x μ1 v F1 H1 g1 c1 r1 q1 => ?_
  refine hl.he T wl σ F1 H1 ρ μ1 _ _ (R.go g1.ex c1) q1 fun o1 μ2 F2 H2 g2 c2 q2 => ?_
  refine hh.he T wl σ F2 H2 ρ μ2 _ _ (R.go (g1.trans g2).ex c2) q2 fun o2 μ3 F3 H3 g3 c3 q3 => ?_
  have r3 := r1.mono (g2.trans g3).ex
  have g13 := (g1.trans g2).trans g3
  unfold qCut at q3
  split at q3
  · rename_i ds
    obtain ⟨n, p⟩ := q3
    obtain ⟨a, xs, rfl, h1, h2⟩ := rep_tup r3
    refine .inr ⟨a, xs, rfl, ex_t c3.sub h1, by rw [← h2.length]; exact n, fun p' hp => ?_⟩
    obtain ⟨c4, g4⟩ := c3.frz (o := .tup (cutV xs o1 o2)) hp
    exact k _ _ _ _ _ (g13.trans g4) c4 (mk_tup (.of upd_same) ((reps_cut h2).mono g4.ex)) p
  · obtain ⟨ds, e, p⟩ := q3
    obtain ⟨a, xs, rfl, h1, h2⟩ := lst_of c3 r3 e
    refine .inl ⟨a, xs, rfl, h1, fun p' hp => ?_⟩
    obtain ⟨c4, g4⟩ := c3.frz (o := .lst (cutV xs o1 o2)) hp
    exact k _ _ _ _ _ (g13.trans g4) c4 (mk_lst upd_same ((reps_cut h2).mono g4.ex)) p
/-- a built-in called: r tells what is asked -/
def OC (K : PySem.W.Frag) (r : List V → Hp → VK → Prop) (q : List D → Mu → DK → Prop) : Prop := ∀ T F H μ xs vs P Q, COk K T F μ H → Reps K F xs vs → q xs μ P →
  (∀ d μ' v F' H', Gr F μ H F' μ' H' → COk K T F' μ' H' → Rep K F' d v → P d μ' → Q v H') → r vs H Q
def dCB (q : List D → Mu → DK → Prop) (fas : DA) (ρ : RE) (μ : Mu) (P : DK) : Prop := fas ρ μ fun xs μ1 => q xs μ1 P
theorem he_cb {r q} (oc : OC X.K r q) (ha : HA X.K W PX tas fas) : HE X.K W PX (tCB r tas) (dCB q fas) := by
  intro T wl σ F H ρ μ P Q R hf k
  refine ha T wl σ F H ρ μ _ _ R hf fun ds μ1 vs F1 H1 g1 c1 r1 q1 => ?_
  exact oc T F1 H1 μ1 ds vs P Q c1 r1 q1 fun d μ' w F' H' g3 => k d μ' w F' H' (g1.trans g3)
theorem pd_blt {x : Str} {id : String} {r q} {p : Pos} (hc : CallR X (.builtin id) r) (oc : OC X.K r q) (hg : Gl X x) (hm : X.mg x = none) (hv : bootBuiltins x = some (.builtin id)) (ha : PDA X W PX (e :: es) tas fas) (hn : x ≠ "__name__" := by decide) (hdb : (x == ("__debug__" : Str)) = false := by decide)
    (he : starEach (e :: es) X.env = (false, eval e X.env) :: starEach es X.env := by rfl) (hpl : (backTo pos (starEach es X.env)).any (·.1) = false := by rfl) : PD X W PX (.Call (.Name x p) (e :: es) [] pos) (tCB r tas) (dCB q fas) :=
  ⟨pe_callB hc hg hm hv ha.pe hn hdb he hpl, he_cb oc ha.he⟩
theorem pd_typ {x : Str} {T : String} {r q} {p : Pos} (hc : CallR X (.type T) r) (oc : OC X.K r q) (hg : Gl X x) (hm : X.mg x = none) (hv : bootBuiltins x = some (.type T)) (ha : PDA X W PX (e :: es) tas fas) (hn : x ≠ "__name__" := by decide) (hdb : (x == ("__debug__" : Str)) = false := by decide)
    (he : starEach (e :: es) X.env = (false, eval e X.env) :: starEach es X.env := by rfl) (hpl : (backTo pos (starEach es X.env)).any (·.1) = false := by rfl) : PD X W PX (.Call (.Name x p) (e :: es) [] pos) (tCB r tas) (dCB q fas) :=
  ⟨pe_callTy hc hg hm hv ha.pe hn hdb he hpl, he_cb oc ha.he⟩
theorem reps1 {F : Hp} {x : D} {vs : List V} (r : Reps K F [x] vs) : ∃ v, vs = [v] ∧ Rep K F x v := by
  unfold Reps at r
  obtain ⟨v, t, rfl, h1, h2⟩ := r
  unfold Reps at h2
  subst h2
  exact ⟨v, rfl, h1⟩
theorem reps2 {F : Hp} {x y : D} {vs : List V} (r : Reps K F [x, y] vs) : ∃ v u, vs = [v, u] ∧ Rep K F x v ∧ Rep K F y u := by
  unfold Reps at r
  obtain ⟨v, t, rfl, h1, h2⟩ := r
  obtain ⟨u, rfl, h3⟩ := reps1 h2
  exact ⟨v, u, rfl, h1, h3⟩
/-- len -/
def qLen (xs : List D) (μ : Mu) (P : DK) : Prop := ∃ x, xs = [x] ∧ (match x with
  | .str z => z.length ≤ sizeLine ∧ P (.int z.length) μ
  | x => ∃ ds, seqOf μ x = some ds ∧ P (.int ds.length) μ)
def rLen (K : PySem.W.Frag) : List V → Hp → VK → Prop := fun xs H Q => (∃ p ys, xs = [.ref p] ∧ (SqL K H p ys ∨ SqT K H p ys) ∧ Q (.int ys.length) H) ∨ (∃ z, xs = [.str z] ∧ z.length ≤ sizeLine ∧ Q (.int z.length) H)
theorem oc_len : OC K (rLen K) qLen := by
  intro T F H μ xs vs P Q c rs q k
  obtain ⟨x, rfl, q⟩ := q
  obtain ⟨v, rfl, r⟩ := reps1 rs
  split at q
  · rw [rep_str r]
    exact .inr ⟨_, rfl, q.1, k _ _ _ _ _ .refl c mk_int q.2⟩
  · obtain ⟨ds, e, p⟩ := q
    obtain ⟨a, vs, rfl, h1, h2⟩ := seq_of c r e
    exact .inl ⟨a, vs, rfl, h1, by rw [← h2.length]; exact k _ _ _ _ _ .refl c mk_int p⟩
theorem pd_len {p : Pos} (hg : Gl X "len") (hm : X.mg "len" = none) (ha : PDA X W PX [a] tas fas) (he : starEach [a] X.env = (false, eval a X.env) :: starEach [] X.env := by rfl) (hpl : (backTo pos (starEach [] X.env)).any (·.1) = false := by rfl) :
    PD X W PX (.Call (.Name "len" p) [a] [] pos) (tCB (rLen X.K) tas) (dCB qLen fas) := pd_blt (CallR.or call_len_seq call_len_str) oc_len hg hm boot_len ha (he := he) (hpl := hpl)
/-- abs, two ints' max, min -/
def qAbs (xs : List D) (μ : Mu) (P : DK) : Prop := ∃ i, xs = [.int i] ∧ P (.int (i.natAbs : Int)) μ
theorem pd_abs {p : Pos} (hg : Gl X "abs") (hm : X.mg "abs" = none) (ha : PDA X W PX [a] tas fas) (he : starEach [a] X.env = (false, eval a X.env) :: starEach [] X.env := by rfl) (hpl : (backTo pos (starEach [] X.env)).any (·.1) = false := by rfl) :
    PD X W PX (.Call (.Name "abs" p) [a] [] pos) (tCB (fun xs H Q => ∃ i, xs = [.int i] ∧ Q (.int (if i < 0 then -i else i)) H) tas) (dCB qAbs fas) := by
  refine pd_blt call_abs ?_ hg hm (by decide +kernel) ha (he := he) (hpl := hpl)
  intro T F H μ xs vs P Q c rs q k
  obtain ⟨i, rfl, q⟩ := q
  obtain ⟨v, rfl, r⟩ := reps1 rs
  have e : (if i < 0 then -i else i) = (i.natAbs : Int) := by split <;> omega
  exact ⟨i, by rw [rep_int r], k _ _ _ _ _ .refl c (by rw [e]; exact mk_int) q⟩
def qMax (xs : List D) (μ : Mu) (P : DK) : Prop := ∃ i j, xs = [.int i, .int j] ∧ P (.int (max i j)) μ
def qMin (xs : List D) (μ : Mu) (P : DK) : Prop := ∃ i j, xs = [.int i, .int j] ∧ P (.int (min i j)) μ
theorem pd_max2 {p : Pos} (hc : X.calm = true) (hg : Gl X "max") (hm : X.mg "max" = none) (ha : PDA X W PX [a, b] tas fas) (he : starEach [a, b] X.env = (false, eval a X.env) :: starEach [b] X.env := by rfl) (hpl : (backTo pos (starEach [b] X.env)).any (·.1) = false := by rfl) :
    PD X W PX (.Call (.Name "max" p) [a, b] [] pos) (tCB (fun xs H Q => ∃ i j, xs = [.int i, .int j] ∧ Q (.int (if j > i then j else i)) H) tas) (dCB qMax fas) := by
  refine pd_blt (call_max2 hc) ?_ hg hm (by decide +kernel) ha (he := he) (hpl := hpl)
  intro T F H μ xs vs P Q c rs q k
  obtain ⟨i, j, rfl, q⟩ := q
  obtain ⟨v, u, rfl, r1, r2⟩ := reps2 rs
  have e : (if j > i then j else i) = max i j := by split <;> omega
  exact ⟨i, j, by rw [rep_int r1, rep_int r2], k _ _ _ _ _ .refl c (by rw [e]; exact mk_int) q⟩
theorem pd_min2 {p : Pos} (hc : X.calm = true) (hg : Gl X "min") (hm : X.mg "min" = none) (ha : PDA X W PX [a, b] tas fas) (he : starEach [a, b] X.env = (false, eval a X.env) :: starEach [b] X.env := by rfl) (hpl : (backTo pos (starEach [b] X.env)).any (·.1) = false := by rfl) :
    PD X W PX (.Call (.Name "min" p) [a, b] [] pos) (tCB (fun xs H Q => ∃ i j, xs = [.int i, .int j] ∧ Q (.int (if j < i then j else i)) H) tas) (dCB qMin fas) := by
  refine pd_blt (call_min2 hc) ?_ hg hm (by decide +kernel) ha (he := he) (hpl := hpl)
  intro T F H μ xs vs P Q c rs q k
  obtain ⟨i, j, rfl, q⟩ := q
  obtain ⟨v, u, rfl, r1, r2⟩ := reps2 rs
  have e : (if j < i then j else i) = min i j := by split <;> omega
  exact ⟨i, j, by rw [rep_int r1, rep_int r2], k _ _ _ _ _ .refl c (by rw [e]; exact mk_int) q⟩
/-- int of an int, of a truth -/
def qInt (xs : List D) (μ : Mu) (P : DK) : Prop := match xs with
  | [.int i] => P (.int i) μ
  | [.bl k] => P (.int (if k = true then 1 else 0)) μ
  | _ => False
theorem pd_toint {p : Pos} (hg : Gl X "int") (hm : X.mg "int" = none) (ha : PDA X W PX [a] tas fas) (he : starEach [a] X.env = (false, eval a X.env) :: starEach [] X.env := by rfl) (hpl : (backTo pos (starEach [] X.env)).any (·.1) = false := by rfl) :
    PD X W PX (.Call (.Name "int" p) [a] [] pos) (tCB (fun xs H Q => (∃ i, xs = [.int i] ∧ Q (.int i) H) ∨ ∃ k, xs = [.bl k] ∧ Q (.int (if k then 1 else 0)) H) tas) (dCB qInt fas) := by
  refine pd_typ call_int1 ?_ hg hm (by decide +kernel) ha (he := he) (hpl := hpl)
  intro T F H μ xs vs P Q c rs q k
  unfold qInt at q
  split at q
  · obtain ⟨v, rfl, r⟩ := reps1 rs
    exact .inl ⟨_, by rw [rep_int r], k _ _ _ _ _ .refl c mk_int q⟩
  · obtain ⟨v, rfl, r⟩ := reps1 rs
    exact .inr ⟨_, by rw [rep_bl r], k _ _ _ _ _ .refl c mk_int q⟩
  · exact q.elim
/-- list of .. , tuple of .. -/
def qList (xs : List D) (μ : Mu) (P : DK) : Prop := ∃ x ds, xs = [x] ∧ seqOf μ x = some ds ∧ P (.lst ds) μ
def qListO (xs : List D) (μ : Mu) (P : DK) : Prop := ∃ x ds, xs = [x] ∧ seqOf μ x = some ds ∧ ∀ p, μ p = none → P (.ref p) (put μ p (.lst ds))
def rListOf (K : PySem.W.Frag) : List V → Hp → VK → Prop := fun xs H Q => ∃ p ys, xs = [.ref p] ∧ (SqL K H p ys ∨ SqT K H p ys) ∧ ∀ l, H l = none → Q (.ref l) (upd H l (.lst ys))
theorem oc_list : OC K (rListOf K) qList := by
  intro T F H μ xs vs P Q c rs q k
  obtain ⟨x, ds, rfl, e, q⟩ := q
  obtain ⟨v, rfl, r⟩ := reps1 rs
  obtain ⟨a, vs, rfl, h1, h2⟩ := seq_of c r e
  refine ⟨a, vs, rfl, h1, fun l hl => ?_⟩
  obtain ⟨c4, g4⟩ := c.frz (o := .lst vs) hl
  exact k _ _ _ _ _ g4 c4 (mk_lst upd_same (h2.mono g4.ex)) q
theorem oc_listO : OC K (rListOf K) qListO := by
  intro T F H μ xs vs P Q c rs q k
  obtain ⟨x, ds, rfl, e, q⟩ := q
  obtain ⟨v, rfl, r⟩ := reps1 rs
  obtain ⟨a, vs, rfl, h1, h2⟩ := seq_of c r e
  refine ⟨a, vs, rfl, h1, fun l hl => ?_⟩
  obtain ⟨c4, g4, mp⟩ := c.new hl h2
  exact k _ _ _ _ _ g4 c4 mk_ref (q l mp)
theorem pd_list {p : Pos} (hg : Gl X "list") (hm : X.mg "list" = none) (ha : PDA X W PX [a] tas fas) (he : starEach [a] X.env = (false, eval a X.env) :: starEach [] X.env := by rfl) (hpl : (backTo pos (starEach [] X.env)).any (·.1) = false := by rfl) : PD X W PX (.Call (.Name "list" p) [a] [] pos) (tCB (rListOf X.K) tas) (dCB qList fas) := pd_typ call_list_of oc_list hg hm (by decide +kernel) ha (he := he) (hpl := hpl)
theorem pd_listO {p : Pos} (hg : Gl X "list") (hm : X.mg "list" = none) (ha : PDA X W PX [a] tas fas) (he : starEach [a] X.env = (false, eval a X.env) :: starEach [] X.env := by rfl) (hpl : (backTo pos (starEach [] X.env)).any (·.1) = false := by rfl) : PD X W PX (.Call (.Name "list" p) [a] [] pos) (tCB (rListOf X.K) tas) (dCB qListO fas) := pd_typ call_list_of oc_listO hg hm (by decide +kernel) ha (he := he) (hpl := hpl)
/-- tuple of a list -/
def qTuple (xs : List D) (μ : Mu) (P : DK) : Prop := ∃ x ds, xs = [x] ∧ lstOf μ x = some ds ∧ P (.tup ds) μ
theorem pd_tuple {p : Pos} (hg : Gl X "tuple") (hm : X.mg "tuple" = none) (ha : PDA X W PX [a] tas fas) (he : starEach [a] X.env = (false, eval a X.env) :: starEach [] X.env := by rfl) (hpl : (backTo pos (starEach [] X.env)).any (·.1) = false := by rfl) : PD X W PX (.Call (.Name "tuple" p) [a] [] pos) (tCB (fun xs H Q => ∃ p ys, xs = [.ref p] ∧ ((SqL X.K H p ys ∧ ∀ l, H l = none → Q (.ref l) (upd H l (.tup ys))) ∨ (SqT X.K H p ys ∧ Q (.ref p) H))) tas) (dCB qTuple fas) := by
  refine pd_typ call_tuple_of ?_ hg hm (by decide +kernel) ha (he := he) (hpl := hpl)
  intro T F H μ xs vs P Q c rs q k
  obtain ⟨x, ds, rfl, e, q⟩ := q
  obtain ⟨v, rfl, r⟩ := reps1 rs
  obtain ⟨a, vs, rfl, h1, h2⟩ := lst_of c r e
  refine ⟨a, vs, rfl, .inl ⟨h1, fun l hl => ?_⟩⟩
  obtain ⟨c4, g4⟩ := c.frz (o := .tup vs) hl
  exact k _ _ _ _ _ g4 c4 (mk_tup (.of upd_same) (h2.mono g4.ex)) q
end
end
section
section
variable {X : Cx} {W : WX} {PX : DX} {a b c e : Expr} {ta tb tc te : TE} {f g h : DE} {pos : Pos} {es rest : List Expr} {tas : TA} {fas : DA} {tt tu : TT} {p q : DT} {K : PySem.W.Frag} {st : Stmt} {sts : List Stmt} {ts tr : TS} {u v : DS}
/-! ### blocks, small statements -/
def dNext (N : DN) (ρ : RE) (μ : Mu) : Prop := N.nx ρ μ
def dSeq (u v : DS) (N : DN) (ρ : RE) (μ : Mu) : Prop := u { N with nx := v N } ρ μ
theorem sd_nil : SSD X W PX [] tNext dNext := ⟨pss_nil, fun T wl σ F H ρ μ N E R hf L => L.nx _ _ _ _ _ .refl R hf⟩
theorem sd_cons (h1 : SD X W PX st ts u) (h2 : SSD X W PX sts tr v) : SSD X W PX (st :: sts) (tSeq ts tr) (dSeq u v) := by
  refine ⟨pss_cons h1.pe h2.pe, fun T wl σ F H ρ μ N E R hf L => ?_⟩
  refine h1.he T wl σ F H ρ μ { N with nx := v N } _ R hf ⟨fun ρ' μ' σ' F' H' g R' hv => ?_, L.rt, L.bk, L.ct⟩
  exact h2.he T wl σ' F' H' ρ' μ' N E R' hv (L.go g)
theorem sd_one (h1 : SD X W PX st ts u) : SSD X W PX [st] ts u := ⟨pss_one h1.pe, h1.he⟩
def dBreak (N : DN) (ρ : RE) (μ : Mu) : Prop := N.bk ρ μ
def dCont (N : DN) (ρ : RE) (μ : Mu) : Prop := N.ct ρ μ
theorem sd_pass : SD X W PX (.Pass pos) tNext dNext := ⟨ps_pass, fun T wl σ F H ρ μ N E R hf L => L.nx _ _ _ _ _ .refl R hf⟩
theorem sd_break : SD X W PX (.Break pos) tBreak dBreak := ⟨ps_break, fun T wl σ F H ρ μ N E R hf L => L.bk _ _ _ _ _ .refl R hf⟩
theorem sd_cont : SD X W PX (.Continue pos) tCont dCont := ⟨ps_continue, fun T wl σ F H ρ μ N E R hf L => L.ct _ _ _ _ _ .refl R hf⟩
def dDrop (f : DE) (N : DN) (ρ : RE) (μ : Mu) : Prop := f ρ μ fun _ μ1 => N.nx ρ μ1
theorem sd_expr (h : PD X W PX e te f) (hs : swapsWith e none pos.line X.env = pure false := by rfl) : SD X W PX (.Expr e pos) (tDrop te) (dDrop f) := by
  refine ⟨ps_expr h.pe hs, fun T wl σ F H ρ μ N E R hf L => ?_⟩
  exact h.he T wl σ F H ρ μ _ _ R hf fun x μ1 v F1 H1 g1 c1 r1 q1 => L.nx _ _ _ _ _ g1 (R.go g1.ex c1) q1
def dRet (f : DE) (N : DN) (ρ : RE) (μ : Mu) : Prop := f ρ μ N.rt
theorem sd_ret (h : PD X W PX e te f) : SD X W PX (.Return (some e) pos) (tRet te) (dRet f) := by
  refine ⟨ps_ret h.pe, fun T wl σ F H ρ μ N E R hf L => ?_⟩
  exact h.he T wl σ F H ρ μ _ _ R hf fun x μ1 v F1 H1 g1 c1 r1 q1 => L.rt _ _ _ _ _ g1 c1 r1 q1
def dRetN (N : DN) (_ : RE) (μ : Mu) : Prop := N.rt .non μ
theorem sd_retN : SD X W PX (.Return none pos) tRetN dRetN := ⟨ps_retN, fun T wl σ F H ρ μ N E R hf L => L.rt _ _ _ _ _ .refl R.c mk_non hf⟩
def dIfS (p : DT) (u v : DS) (N : DN) (ρ : RE) (μ : Mu) : Prop := p ρ μ fun k μ1 => if k = true then u N ρ μ1 else v N ρ μ1
theorem sd_if {ba bb : List Stmt} (hc : PDT X W PX c tt p) (ha : SSD X W PX ba ts u) (hb : SSD X W PX bb tr v) : SD X W PX (.If c ba bb pos) (tIfS tt ts tr) (dIfS p u v) := by
  refine ⟨ps_if hc.pe ha.pe hb.pe, fun T wl σ F H ρ μ N E R hf L => ?_⟩
  refine hc.he T wl σ F H ρ μ _ _ R hf fun x μ1 F1 H1 g1 c1 q1 => ?_
  cases x with
  | true =>
    rw [if_pos rfl] at q1
    rw [if_pos rfl]
    exact ha.he T wl σ F1 H1 ρ μ1 N E (R.go g1.ex c1) q1 (L.go g1)
  | false =>
    rw [if_neg Bool.false_ne_true] at q1
    rw [if_neg Bool.false_ne_true]
    exact hb.he T wl σ F1 H1 ρ μ1 N E (R.go g1.ex c1) q1 (L.go g1)
/-! ### targets -/
abbrev DG := D → RE → Mu → (RE → Mu → Prop) → Prop
abbrev DGs := List D → RE → Mu → (RE → Mu → Prop) → Prop
def HG (K : PySem.W.Frag) (W : WX) (PX : DX) (t : TG) (j : DG) : Prop := ∀ T, WL K T PX W → ∀ σ F H ρ μ d v P (Q : L2.St → Hp → Prop), ROk K T ρ μ σ F H → Rep K F d v → j d ρ μ P →
  (∀ ρ' μ' σ' F' H', Gr F μ H F' μ' H' → ROk K T ρ' μ' σ' F' H' → P ρ' μ' → Q σ' H') → t v σ H Q
def HGs (K : PySem.W.Frag) (W : WX) (PX : DX) (t : TGs) (j : DGs) : Prop := ∀ T, WL K T PX W → ∀ σ F H ρ μ ds vs P (Q : L2.St → Hp → Prop), ROk K T ρ μ σ F H → Reps K F ds vs → j ds ρ μ P →
  (∀ ρ' μ' σ' F' H', Gr F μ H F' μ' H' → ROk K T ρ' μ' σ' F' H' → P ρ' μ' → Q σ' H') → t vs σ H Q
structure GD (X : Cx) (W : WX) (PX : DX) (e : Expr) (t : TG) (j : DG) : Prop where
  pe : PG X e t
  he : HG X.K W PX t j
structure GDs (X : Cx) (W : WX) (PX : DX) (es : List Expr) (t : TGs) (j : DGs) : Prop where
  pe : PGs X es t
  he : HGs X.K W PX t j
def jName (i : Nat) (d : D) (ρ : RE) (μ : Mu) (P : RE → Mu → Prop) : Prop := P (ρ.set i (some d)) μ
theorem gd_name {x : Str} (i : Nat) (hN : X.N.Nodup) (hi : X.N[i]? = some x := by rfl) (hx : Loc X.env.scope x := by first | exact Or.inl rfl | exact Or.inr rfl) (hf : X.fn x = true ∨ X.env.scope.names.lookup x = some .local := by first | exact .inr rfl | exact .inl rfl) : GD X W PX (.Name x pos) (gName i) (jName i) :=
  ⟨pg_name hN hi hx hf, fun T wl σ F H ρ μ d v P Q R r hf k => k _ _ _ _ _ .refl (R.set i r) hf⟩
def jNil (ds : List D) (ρ : RE) (μ : Mu) (P : RE → Mu → Prop) : Prop := ds = [] ∧ P ρ μ
def jCons (j : DG) (js : DGs) (ds : List D) (ρ : RE) (μ : Mu) (P : RE → Mu → Prop) : Prop := ∃ d r, ds = d :: r ∧ j d ρ μ fun ρ1 μ1 => js r ρ1 μ1 P
theorem gd_nil : GDs X W PX [] gNil jNil := by
  refine ⟨pgs_nil, fun T wl σ F H ρ μ ds vs P Q R r hf k => ?_⟩
  obtain ⟨rfl, p⟩ := hf
  unfold Reps at r
  exact ⟨r, k _ _ _ _ _ .refl R p⟩
theorem gd_cons {t : TG} {tr : TGs} {j : DG} {js : DGs} (h1 : GD X W PX e t j) (h2 : GDs X W PX es tr js) (hs : (assignEach (e :: es) X.env).map (·.2) = assign e X.env :: (assignEach es X.env).map (·.2) := by rfl) : GDs X W PX (e :: es) (gCons t tr) (jCons j js) := by
  refine ⟨pgs_cons h1.pe h2.pe hs, fun T wl σ F H ρ μ ds vs P Q R r hf k => ?_⟩
  obtain ⟨d, dr, rfl, p⟩ := hf
  unfold Reps at r
  obtain ⟨v, vr, rfl, r1, r2⟩ := r
  refine ⟨v, vr, rfl, h1.he T wl σ F H ρ μ d v _ _ R r1 p fun ρ1 μ1 σ1 F1 H1 g1 R1 p1 => ?_⟩
  exact h2.he T wl σ1 F1 H1 ρ1 μ1 dr vr P Q R1 (r2.mono g1.ex) p1 fun _ _ _ _ _ g2 => k _ _ _ _ _ (g1.trans g2)
def jTup (n : Nat) (js : DGs) (d : D) (ρ : RE) (μ : Mu) (P : RE → Mu → Prop) : Prop := ∃ ds, d = .tup ds ∧ ds.length = n ∧ js ds ρ μ P
theorem gd_tup {k : Nat} {t : TGs} {js : DGs} {n : Nat} (hc : X.calm = true) (h : GDs X W PX es t js) (hn : (assignEach es X.env).length = n := by rfl) (hst : (assignEach es X.env).findIdx? (·.1) = none := by rfl) : GD X W PX (.Tuple es k pos) (gTup X.K n t) (jTup n js) := by
  refine ⟨pg_tup hc h.pe hn hst, fun T wl σ F H ρ μ d v P Q R r hf k => ?_⟩
  obtain ⟨ds, rfl, hl, p⟩ := hf
  obtain ⟨a, xs, rfl, h1, h2⟩ := rep_tup r
  exact ⟨a, xs, rfl, ex_t R.c.sub h1, by rw [← h2.length]; exact hl, h.he T wl σ F H ρ μ ds xs P Q R h2 p k⟩
/-- a, b = a list -/
def jLst (n : Nat) (js : DGs) (d : D) (ρ : RE) (μ : Mu) (P : RE → Mu → Prop) : Prop := ∃ ds, lstOf μ d = some ds ∧ ds.length = n ∧ js ds ρ μ P
theorem gd_lst {k : Nat} {t : TGs} {js : DGs} {n : Nat} (hc : X.calm = true) (h : GDs X W PX es t js) (hn : (assignEach es X.env).length = n := by rfl) (hst : (assignEach es X.env).findIdx? (·.1) = none := by rfl) : GD X W PX (.Tuple es k pos) (gLst X.K n t) (jLst n js) := by
  refine ⟨pg_lst hc h.pe hn hst, fun T wl σ F H ρ μ d v P Q R r hf k => ?_⟩
  obtain ⟨ds, e1, hl, p⟩ := hf
  obtain ⟨a, xs, rfl, h1, h2⟩ := lst_of R.c r e1
  exact ⟨a, xs, rfl, h1, by rw [← h2.length]; exact hl, h.he T wl σ F H ρ μ ds xs P Q R h2 p k⟩
/-- xs[i] = .., our own list -/
def stM (o i d : D) (ρ : RE) (μ : Mu) (P : RE → Mu → Prop) : Prop := ∃ p k ds n, o = .ref p ∧ i = .int k ∧ μ p = some (.lst ds) ∧ ixN ds.length k = some n ∧ P ρ (put μ p (.lst (ds.set n d)))
def jSub (f g : DE) (d : D) (ρ : RE) (μ : Mu) (P : RE → Mu → Prop) : Prop := f ρ μ fun o μ1 => g ρ μ1 fun i μ2 => stM o i d ρ μ2 P
theorem gd_sub (ha : PD X W PX a ta f) (hb : PD X W PX b tb g)
    (hs : ∀ v, assign (.Subscript a b pos) X.env v = (do
      let ov ← holding [v] (eval a X.env)
      let iv ← holding [v, ov] (eval b X.env)
      standAt pos
      holding [v, ov, iv] (setItem ov iv v)
      release [v, ov, iv] []) := by intro _; rfl) : GD X W PX (.Subscript a b pos) (gSub ta tb rSetL) (jSub f g) := by
  refine ⟨pg_sub ha.pe hb.pe set_list hs, fun T wl σ F H ρ μ d v P Q R r hf k => ?_⟩
  refine ha.he T wl σ F H ρ μ _ _ R hf fun x μ1 w F1 H1 g1 c1 r1 q1 => ?_
  refine hb.he T wl σ F1 H1 ρ μ1 _ _ (R.go g1.ex c1) q1 fun y μ2 z F2 H2 g2 c2 r2 q2 => ?_
  obtain ⟨p, i, ds, n, rfl, rfl, hp, hn, q⟩ := q2
  obtain ⟨_, vs, h1, h2⟩ := c2.cell hp
  have g12 := g1.trans g2
  obtain ⟨c3, g3⟩ := c2.mut hp (h2.set n (r.mono g12.ex))
  exact ⟨p, vs, i, n, rep_ref r1, rep_int r2, h1, by rw [← h2.length]; exact hn, k _ _ _ _ _ (g12.trans g3) (R.go (g12.trans g3).ex c3) q⟩
def dAsg (f : DE) (j : DG) (N : DN) (ρ : RE) (μ : Mu) : Prop := f ρ μ fun x μ1 => j x ρ μ1 N.nx
theorem hs_asg {t : TG} {j : DG} (h : HE K W PX te f) (hj : HG K W PX t j) : HS K W PX (tAsg te t) (dAsg f j) := by
  intro T wl σ F H ρ μ N E R hf L
  refine h T wl σ F H ρ μ _ _ R hf fun x μ1 v F1 H1 g1 c1 r1 q1 => ?_
  exact hj T wl σ F1 H1 ρ μ1 x v _ _ (R.go g1.ex c1) r1 q1 fun _ _ _ _ _ g2 => L.nx _ _ _ _ _ (g1.trans g2)
theorem sd_asg {tg : Expr} {t : TG} {j : DG} (h : PD X W PX e te f) (hj : GD X W PX tg t j) (hs : swapsWithSole [tg] e pos.line X.env = pure false := by rfl) (hw : swappedStores [tg] e X.env = pure none := by rfl)
    (h1 : (assignEach [tg] X.env).map (·.2) = [assign tg X.env] := by rfl) : SD X W PX (.Assign [tg] e pos) (tAsg te t) (dAsg f j) := ⟨ps_asg h.pe hj.pe hs hw h1, hs_asg h.he hj.he⟩
/-- name = e -/
theorem sd_set {x : Str} {pos' : Pos} (i : Nat) (hN : X.N.Nodup) (h : PD X W PX e te f) (hi : X.N[i]? = some x := by rfl) (hx : Loc X.env.scope x := by first | exact Or.inl rfl | exact Or.inr rfl) (hs : swapsWith e (some (.Name x pos')) pos.line X.env = pure false := by rfl)
    (hf : X.fn x = true ∨ X.env.scope.names.lookup x = some .local := by first | exact .inr rfl | exact .inl rfl) : SD X W PX (.Assign [.Name x pos'] e pos) (tAsg te (gName i)) (dAsg f (jName i)) :=
  ⟨ps_set hN hi hx h.pe hs hf, hs_asg h.he fun T wl σ F H ρ μ d v P Q R r hf k => k _ _ _ _ _ .refl (R.set i r) hf⟩
/-- x, y = e1, e2 (two local names) -/
def dPar (i j : Nat) (fas : DA) (N : DN) (ρ : RE) (μ : Mu) : Prop := fas ρ μ fun ds μ1 => ∃ d e, ds = [d, e] ∧ N.nx ((ρ.set i (some d)).set j (some e)) μ1
theorem sd_par {x y : Str} {px py pt : Pos} {kt k2 pt2} (i j : Nat) (hc : X.calm = true) (hN : X.N.Nodup) (ha : PDA X W PX [a, b] tas fas) (hi : X.N[i]? = some x := by rfl) (hj : X.N[j]? = some y := by rfl) (hij : i ≠ j := by decide)
    (hx : X.env.scope.names.lookup x = some .local := by rfl) (hy : X.env.scope.names.lookup y = some .local := by rfl)
    (hw : swappedStores [.Tuple [.Name x px, .Name y py] kt pt] (.Tuple [a, b] k2 pt2) X.env = pure (some [x, y]) := by rfl)
    (hs : swapsWithSole [.Tuple [.Name x px, .Name y py] kt pt] (.Tuple [a, b] k2 pt2) pos.line X.env = pure false := by rfl) :
    SD X W PX (.Assign [.Tuple [.Name x px, .Name y py] kt pt] (.Tuple [a, b] k2 pt2) pos) (tPar i j tas) (dPar i j fas) := by
  refine ⟨ps_par hc hN hi hj hij hx hy ha.pe hw hs, fun T wl σ F H ρ μ N E R hf L => ?_⟩
  refine ha.he T wl σ F H ρ μ _ _ R hf fun ds μ1 vs F1 H1 g1 c1 r1 q1 => ?_
  obtain ⟨d, e, rfl, q⟩ := q1
  obtain ⟨v, u, rfl, r2, r3⟩ := reps2 r1
  exact ⟨v, u, rfl, L.nx _ _ _ _ _ g1 (((R.go g1.ex c1).set i r2).set j r3) q⟩
/-- x += e on ints -/
def dAugI (o : Int → Int → Int) (i : Nat) (f : DE) (N : DN) (ρ : RE) (μ : Mu) : Prop := ∃ m, ρ[i]? = some (some (.int m)) ∧ f ρ μ fun y μ1 => ∃ n, y = .int n ∧ N.nx (ρ.set i (some (.int (o m n)))) μ1
theorem sd_aug {x : Str} {pos' : Pos} {op : Operator} {o : Int → Int → Int} (i : Nat) (hN : X.N.Nodup) (ho : PIp X op (ipI o)) (h : PD X W PX e te f) (hi : X.N[i]? = some x := by rfl) (hx : Loc X.env.scope x := by first | exact Or.inl rfl | exact Or.inr rfl)
    (hf : X.fn x = true ∨ X.env.scope.names.lookup x = some .local := by first | exact .inr rfl | exact .inl rfl) : SD X W PX (.AugAssign (.Name x pos') op e pos) (tAug i te (ipI o)) (dAugI o i f) := by
  refine ⟨ps_aug hN hi hx h.pe ho hf, fun T wl σ F H ρ μ N E R hf L => ?_⟩
  obtain ⟨m, e1, q⟩ := hf
  obtain ⟨v, e2, r⟩ := R.env i _ e1
  rw [rep_int r] at e2
  refine ⟨_, e2, h.he T wl σ F H ρ μ _ _ R q fun y μ1 w F1 H1 g1 c1 r1 q1 => ?_⟩
  obtain ⟨n, rfl, q2⟩ := q1
  exact ⟨m, n, rfl, rep_int r1, L.nx _ _ _ _ _ g1 ((R.go g1.ex c1).set i mk_int) q2⟩
/-! ### loops -/
def dWhile (p : DT) (u : DS) (N : DN) (ρ : RE) (μ : Mu) : Prop := ∃ I : Nat → RE → Mu → Prop, (∃ m, I m ρ μ) ∧ ∀ m ρ' μ', I m ρ' μ' → p ρ' μ' fun k μ1 =>
  if k = true then u { N with nx := fun ρ2 μ2 => ∃ m', m' < m ∧ I m' ρ2 μ2, ct := fun ρ2 μ2 => ∃ m', m' < m ∧ I m' ρ2 μ2, bk := N.nx } ρ' μ1 else N.nx ρ' μ1
theorem sd_while {body : List Stmt} (hp : PassesOwn (model X.prog X.w) X.A X.env X.xe) (hc : PDT X W PX c tt p) (hb : SSD X W PX body ts u) : SD X W PX (.While c body [] pos) (tWhile tt ts) (dWhile p u) := by
  refine ⟨ps_while hp hc.pe hb.pe, fun T wl σ F H ρ μ N E R hf L => ?_⟩
  obtain ⟨I, ⟨m, i0⟩, hi⟩ := hf
  refine ⟨fun m σ' H' => ∃ ρ' μ' F', Gr F μ H F' μ' H' ∧ ROk X.K T ρ' μ' σ' F' H' ∧ I m ρ' μ', ⟨m, ρ, μ, F, .refl, R, i0⟩, ?_⟩
  rintro m σ1 H1 ⟨ρ1, μ1, F1, g1, R1, i1⟩
  refine hc.he T wl σ1 F1 H1 ρ1 μ1 _ _ R1 (hi m ρ1 μ1 i1) fun x μ2 F2 H2 g2 c2 q2 => ?_
  cases x with
  | true =>
    rw [if_pos rfl] at q2
    rw [if_pos rfl]
    refine ⟨fun σ' H' => ∃ m', m' < m ∧ ∃ ρ' μ' F', Gr F μ H F' μ' H' ∧ ROk X.K T ρ' μ' σ' F' H' ∧ I m' ρ' μ', fun σ' H' n => n, ?_⟩
    refine hb.he T wl σ1 F2 H2 ρ1 μ2 _ _ (R1.go g2.ex c2) q2 ⟨?_, ?_, ?_, ?_⟩
    · rintro ρ' μ' σ' F' H' g3 R3 ⟨m', l, i3⟩
      exact ⟨m', l, ρ', μ', F', (g1.trans g2).trans g3, R3, i3⟩
    · exact fun _ _ _ _ _ g3 => L.rt _ _ _ _ _ ((g1.trans g2).trans g3)
    · exact fun _ _ _ _ _ g3 => L.nx _ _ _ _ _ ((g1.trans g2).trans g3)
    · rintro ρ' μ' σ' F' H' g3 R3 ⟨m', l, i3⟩
      exact ⟨m', l, ρ', μ', F', (g1.trans g2).trans g3, R3, i3⟩
  | false =>
    rw [if_neg Bool.false_ne_true] at q2
    rw [if_neg Bool.false_ne_true]
    exact L.nx _ _ _ _ _ (g1.trans g2) (R1.go g2.ex c2) q2
/-- for over a list, by an invariant -/
def dForI (f : DE) (j : DG) (u : DS) (N : DN) (ρ : RE) (μ : Mu) : Prop := f ρ μ fun x μ1 => ∃ ds, lstOf μ1 x = some ds ∧ ∃ I : Nat → RE → Mu → Prop, I 0 ρ μ1 ∧ (∀ i ρ' μ', i ≤ ds.length → I i ρ' μ' → lstOf μ' x = some ds) ∧
  (∀ i d ρ' μ', ds[i]? = some d → I i ρ' μ' → j d ρ' μ' fun ρ2 μ2 => u { N with nx := I (i + 1), ct := I (i + 1), bk := N.nx } ρ2 μ2) ∧ (∀ ρ' μ', I ds.length ρ' μ' → N.nx ρ' μ')
/-- .. over a tuple -/
def dForT (f : DE) (j : DG) (u : DS) (N : DN) (ρ : RE) (μ : Mu) : Prop := f ρ μ fun x μ1 => ∃ ds, x = .tup ds ∧ ∃ I : Nat → RE → Mu → Prop, I 0 ρ μ1 ∧
  (∀ i d ρ' μ', ds[i]? = some d → I i ρ' μ' → j d ρ' μ' fun ρ2 μ2 => u { N with nx := I (i + 1), ct := I (i + 1), bk := N.nx } ρ2 μ2) ∧ (∀ ρ' μ', I ds.length ρ' μ' → N.nx ρ' μ')
/-- .. over a range -/
def dForR (lo : Int) (n : Nat) (j : DG) (u : DS) (N : DN) (ρ : RE) (μ : Mu) : Prop := ∃ I : Nat → RE → Mu → Prop, I 0 ρ μ ∧
  (∀ i ρ' μ', i < n → I i ρ' μ' → j (.int (lo + i)) ρ' μ' fun ρ2 μ2 => u { N with nx := I (i + 1), ct := I (i + 1), bk := N.nx } ρ2 μ2) ∧ (∀ ρ' μ', I n ρ' μ' → N.nx ρ' μ')
variable {tg iter : Expr} {body : List Stmt} {t : TG} {j : DG}
theorem link_for {T F μ H F2 μ2 H2 N E} {I : RE → Mu → Prop} {S : L2.St → Hp → Prop} (L : Link K T F μ H N E) (g : Gr F μ H F2 μ2 H2) (hS : ∀ ρ' μ' σ' F' H', Gr F2 μ2 H2 F' μ' H' → ROk K T ρ' μ' σ' F' H' → I ρ' μ' → S σ' H') :
    Link K T F2 μ2 H2 { N with nx := I, ct := I, bk := N.nx } { E with nx := S, ct := S, bk := E.nx } :=
  ⟨hS, fun _ _ _ _ _ g3 => L.rt _ _ _ _ _ (g.trans g3), fun _ _ _ _ _ g3 => L.nx _ _ _ _ _ (g.trans g3), hS⟩
theorem sd_forI (hp : PassesOwn (model X.prog X.w) X.A X.env X.xe) (hc : X.calm = true) (hi : PD X W PX iter te f) (hj : GD X W PX tg t j) (hb : SSD X W PX body ts u) (hs : ∀ x, foldedSetIterable iter X.env x = pure x := by intro _; rfl) :
    SD X W PX (.For tg iter body [] pos) (tFor (iList X.K te) t ts) (dForI f j u) := by
  refine ⟨ps_for hp hc (pi_list hi.pe) hj.pe hb.pe hs, fun T wl σ F H ρ μ N E R hf L => ?_⟩
  refine hi.he T wl σ F H ρ μ _ _ R hf fun x μ1 v F1 H1 g1 c1 r1 q1 => ?_
  obtain ⟨ds, e1, I, i0, hI, hs, hd⟩ := q1
  obtain ⟨a, xs, rfl, h1, h2⟩ := lst_of c1 r1 e1
  refine ⟨a, rfl, ⟨xs, h1⟩, fun i m σ' H' => m = ds.length - i ∧ i ≤ ds.length ∧ ∃ ρ' μ' F', Gr F1 μ1 H1 F' μ' H' ∧ ROk X.K T ρ' μ' σ' F' H' ∧ I i ρ' μ', ⟨ds.length, rfl, Nat.zero_le _, ρ, μ1, F1, .refl, R.go g1.ex c1, i0⟩, ?_⟩
  rintro i m σ2 H2 ⟨rfl, hi, ρ2, μ2, F2, g2, R2, i2⟩
  obtain ⟨a', xs2, ea, h3, h4⟩ := lst_of R2.c (r1.mono g2.ex) (hI i ρ2 μ2 hi i2)
  cases ea
  have hl := h4.length
  by_cases hlt : i < ds.length
  · obtain ⟨y, hy, ry⟩ := h4.get (List.getElem?_eq_getElem hlt)
    refine .inr ⟨⟨xs2, y, h3, hy⟩, fun σ' H' => i + 1 ≤ ds.length ∧ ∃ ρ' μ' F', Gr F1 μ1 H1 F' μ' H' ∧ ROk X.K T ρ' μ' σ' F' H' ∧ I (i + 1) ρ' μ', fun σ' H' hN => ⟨ds.length - (i + 1), by omega, rfl, hN.1, hN.2⟩, fun z H' hz => ?_⟩
    obtain ⟨rfl, hz⟩ := hz
    have ez : z = y := Option.some.inj ((hz xs2 h3).symm.trans hy)
    subst ez
    refine hj.he T wl σ2 F2 _ ρ2 μ2 _ _ _ _ R2 ry (hs i _ ρ2 μ2 (List.getElem?_eq_getElem hlt) i2) fun ρ3 μ3 σ3 F3 H3 g3 R3 q3 => ?_
    refine hb.he T wl σ3 F3 H3 ρ3 μ3 _ _ R3 q3 (link_for L ((g1.trans g2).trans g3) ?_)
    exact fun ρ' μ' σ' F' H' g4 R4 i4 => ⟨hlt, ρ', μ', F', (g2.trans g3).trans g4, R4, i4⟩
  · have e : i = ds.length := by omega
    subst e
    exact .inl ⟨⟨xs2, h3, by omega⟩, L.nx _ _ _ _ _ (g1.trans g2) R2 (hd _ _ i2)⟩
theorem sd_forT (hp : PassesOwn (model X.prog X.w) X.A X.env X.xe) (hc : X.calm = true) (hi : PD X W PX iter te f) (hj : GD X W PX tg t j) (hb : SSD X W PX body ts u) (hs : ∀ x, foldedSetIterable iter X.env x = pure x := by intro _; rfl) :
    SD X W PX (.For tg iter body [] pos) (tFor (iTup X.K te) t ts) (dForT f j u) := by
  refine ⟨ps_for hp hc (pi_tup hi.pe) hj.pe hb.pe hs, fun T wl σ F H ρ μ N E R hf L => ?_⟩
  refine hi.he T wl σ F H ρ μ _ _ R hf fun x μ1 v F1 H1 g1 c1 r1 q1 => ?_
  obtain ⟨ds, rfl, I, i0, hs, hd⟩ := q1
  obtain ⟨a, xs, rfl, h1, h2⟩ := rep_tup r1
  refine ⟨a, rfl, ⟨xs, ex_t c1.sub h1⟩, fun i m σ' H' => m = ds.length - i ∧ i ≤ ds.length ∧ ∃ ρ' μ' F', Gr F1 μ1 H1 F' μ' H' ∧ ROk X.K T ρ' μ' σ' F' H' ∧ I i ρ' μ', ⟨ds.length, rfl, Nat.zero_le _, ρ, μ1, F1, .refl, R.go g1.ex c1, i0⟩, ?_⟩
  rintro i m σ2 H2 ⟨rfl, hi, ρ2, μ2, F2, g2, R2, i2⟩
  have h3 : SqT X.K H2 a xs := ex_t R2.c.sub (ex_t g2.ex h1)
  have h4 := h2.mono g2.ex
  have hl := h4.length
  by_cases hlt : i < ds.length
  · obtain ⟨y, hy, ry⟩ := h4.get (List.getElem?_eq_getElem hlt)
    refine .inr ⟨⟨xs, y, h3, hy⟩, fun σ' H' => i + 1 ≤ ds.length ∧ ∃ ρ' μ' F', Gr F1 μ1 H1 F' μ' H' ∧ ROk X.K T ρ' μ' σ' F' H' ∧ I (i + 1) ρ' μ', fun σ' H' hN => ⟨ds.length - (i + 1), by omega, rfl, hN.1, hN.2⟩, fun z H' hz => ?_⟩
    obtain ⟨rfl, hz⟩ := hz
    have ez : z = y := Option.some.inj ((hz xs h3).symm.trans hy)
    subst ez
    refine hj.he T wl σ2 F2 _ ρ2 μ2 _ _ _ _ R2 ry (hs i _ ρ2 μ2 (List.getElem?_eq_getElem hlt) i2) fun ρ3 μ3 σ3 F3 H3 g3 R3 q3 => ?_
    refine hb.he T wl σ3 F3 H3 ρ3 μ3 _ _ R3 q3 (link_for L ((g1.trans g2).trans g3) ?_)
    exact fun ρ' μ' σ' F' H' g4 R4 i4 => ⟨hlt, ρ', μ', F', (g2.trans g3).trans g4, R4, i4⟩
  · have e : i = ds.length := by omega
    subst e
    exact .inl ⟨⟨xs, h3, by omega⟩, L.nx _ _ _ _ _ (g1.trans g2) R2 (hd _ _ i2)⟩
/-- the loop over a range, its reading -/
theorem hs_range {lo : Int} {n : Nat} (hj : HG K W PX t j) (hb : HS K W PX ts u) {T σ F H ρ μ N E} (wl : WL K T PX W) (R : ROk K T ρ μ σ F H) (hf : dForR lo n j u N ρ μ) (L : Link K T F μ H N E) :
    ∃ S : Nat → Nat → L2.St → Hp → Prop, (∃ m, S 0 m σ H) ∧ ∀ i m σ H, S i m σ H → ((Itr lo n).stop i H ∧ E.nx σ H) ∨ ((Itr lo n).go i H ∧ ∃ Nn : L2.St → Hp → Prop, (∀ σ' H', Nn σ' H' → ∃ m', m' < m ∧ S (i + 1) m' σ' H') ∧ ∀ x H', (Itr lo n).yld i H x H' → t x σ H' fun σ2 H2 => ts { E with nx := Nn, ct := Nn, bk := E.nx } σ2 H2) := by
  obtain ⟨I, i0, hs, hd⟩ := hf
  refine for_range (lo := lo) (n := n) (fun i σ' H' => ∃ ρ' μ' F', Gr F μ H F' μ' H' ∧ ROk K T ρ' μ' σ' F' H' ∧ I i ρ' μ') ⟨ρ, μ, F, .refl, R, i0⟩ ?_ ?_
  · rintro i σ2 H2 hlt ⟨ρ2, μ2, F2, g2, R2, i2⟩
    refine hj T wl σ2 F2 _ ρ2 μ2 _ _ _ _ R2 mk_int (hs i ρ2 μ2 hlt i2) fun ρ3 μ3 σ3 F3 H3 g3 R3 q3 => ?_
    refine hb T wl σ3 F3 H3 ρ3 μ3 _ _ R3 q3 (link_for L (g2.trans g3) ?_)
    exact fun ρ' μ' σ' F' H' g4 R4 i4 => ⟨ρ', μ', F', (g2.trans g3).trans g4, R4, i4⟩
  · rintro σ2 H2 ⟨ρ2, μ2, F2, g2, R2, i2⟩
    exact L.nx _ _ _ _ _ g2 R2 (hd _ _ i2)
def dRange1 (fas : DA) (j : DG) (u : DS) (N : DN) (ρ : RE) (μ : Mu) : Prop := fas ρ μ fun xs μ1 => ∃ n : Int, xs = [.int n] ∧ n < 2 ^ 62 ∧ -(2 ^ 62) ≤ n ∧ dForR 0 n.toNat j u N ρ μ1
def dRange2 (fas : DA) (j : DG) (u : DS) (N : DN) (ρ : RE) (μ : Mu) : Prop := fas ρ μ fun xs μ1 => ∃ m n : Int, xs = [.int m, .int n] ∧ (-(2 ^ 62) ≤ m ∧ m < 2 ^ 62 ∧ -(2 ^ 62) ≤ n ∧ n < 2 ^ 62) ∧ dForR m (n - m).toNat j u N ρ μ1
theorem sd_range1 {p1 p2 : Pos} (hp : PassesOwn (model X.prog X.w) X.A X.env X.xe) (hc : X.calm = true) (hg : Gl X "range") (hm : X.mg "range" = none) (ha : PDA X W PX [a] tas fas) (hj : GD X W PX tg t j) (hb : SSD X W PX body ts u)
    (hst : starEach [a] X.env = [(false, eval a X.env)] := by rfl) (hs : ∀ x, foldedSetIterable (.Call (.Name "range" p1) [a] [] p2) X.env x = pure x := by intro _; rfl) :
    SD X W PX (.For tg (.Call (.Name "range" p1) [a] [] p2) body [] pos) (tFor (iRng1 tas) t ts) (dRange1 fas j u) := by
  refine ⟨ps_for hp hc (pi_range1 hg hm ha.pe hst) hj.pe hb.pe hs, fun T wl σ F H ρ μ N E R hf L => ?_⟩
  refine ha.he T wl σ F H ρ μ _ _ R hf fun ds μ1 vs F1 H1 g1 c1 r1 q1 => ?_
  obtain ⟨n, rfl, h1, h2, q⟩ := q1
  obtain ⟨v, rfl, r2⟩ := reps1 r1
  exact ⟨n, by rw [rep_int r2], h2, h1, hs_range hj.he hb.he wl (R.go g1.ex c1) q (L.go g1)⟩
theorem sd_range2 {p1 p2 : Pos} (hp : PassesOwn (model X.prog X.w) X.A X.env X.xe) (hc : X.calm = true) (hg : Gl X "range") (hm : X.mg "range" = none) (ha : PDA X W PX [a, b] tas fas) (hj : GD X W PX tg t j) (hb : SSD X W PX body ts u)
    (hst : starEach [a, b] X.env = [(false, eval a X.env), (false, eval b X.env)] := by rfl) (hst2 : starEach [b] X.env = [(false, eval b X.env)] := by rfl) (hs : ∀ x, foldedSetIterable (.Call (.Name "range" p1) [a, b] [] p2) X.env x = pure x := by intro _; rfl) :
    SD X W PX (.For tg (.Call (.Name "range" p1) [a, b] [] p2) body [] pos) (tFor (iRng2 tas) t ts) (dRange2 fas j u) := by
  refine ⟨ps_for hp hc (pi_range2 hg hm ha.pe hst hst2) hj.pe hb.pe hs, fun T wl σ F H ρ μ N E R hf L => ?_⟩
  refine ha.he T wl σ F H ρ μ _ _ R hf fun ds μ1 vs F1 H1 g1 c1 r1 q1 => ?_
  obtain ⟨m, n, rfl, h1, q⟩ := q1
  obtain ⟨v, w, rfl, r2, r3⟩ := reps2 r1
  exact ⟨m, n, by rw [rep_int r2, rep_int r3], h1, hs_range hj.he hb.he wl (R.go g1.ex c1) q (L.go g1)⟩
/-! ### comprehensions -/
def wipeD (ρ : RE) : List Nat → RE
  | [] => ρ
  | v :: vs => (wipeD ρ vs).set v none
theorem wipeD_length (ρ : RE) : ∀ vs : List Nat, (wipeD ρ vs).length = ρ.length
  | [] => rfl
  | v :: vs => by unfold wipeD; rw [List.length_set, wipeD_length ρ vs]
theorem wipe_at {σ : L2.St} {i : Nat} : ∀ {vs : List Nat}, i ∉ vs → (wipe σ vs)[i]? = σ[i]?
  | [], _ => rfl
  | v :: vs, h => by
    unfold wipe
    rw [List.getElem?_set_ne (fun e => h (by rw [e]; exact List.mem_cons_self)), wipe_at fun z => h (List.mem_cons_of_mem _ z)]
theorem wipeD_some {ρ : RE} {i : Nat} {x : D} : ∀ {vs : List Nat}, (wipeD ρ vs)[i]? = some (some x) → ρ[i]? = some (some x) ∧ i ∉ vs
  | [], h => ⟨h, by simp⟩
  | v :: vs, h => by
    unfold wipeD at h
    by_cases hi : v = i
    · subst hi
      by_cases hv : v < (wipeD ρ vs).length
      · rw [List.getElem?_set_self hv] at h; cases h
      · rw [List.getElem?_eq_none (by simpa using hv)] at h; cases h
    · rw [List.getElem?_set_ne hi] at h
      obtain ⟨h1, h2⟩ := wipeD_some h
      exact ⟨h1, by simp only [List.mem_cons, not_or]; exact ⟨fun e => hi e.symm, h2⟩⟩
theorem ROk.wipe {T ρ μ σ F H} (R : ROk K T ρ μ σ F H) (vs : List Nat) : ROk K T (wipeD ρ vs) μ (wipe σ vs) F H := by
  refine ⟨R.c, by rw [wipeD_length, wipe_length]; exact R.len, fun i d h => ?_⟩
  obtain ⟨h1, h2⟩ := wipeD_some h
  obtain ⟨v, h3, h4⟩ := R.env i d h1
  exact ⟨v, by rw [wipe_at h2]; exact h3, h4⟩
theorem wipe_set {i : Nat} {x : Option V} : ∀ {vs : List Nat} (σ : L2.St), i ∈ vs → wipe (σ.set i x) vs = wipe σ vs
  | [], _, h => by simp at h
  | v :: vs, σ, h => by
    unfold wipe
    by_cases e : i ∈ vs
    · rw [wipe_set σ e]
    · have ev : i = v := by simpa [e] using h
      subst ev
      apply List.ext_getElem?
      intro k
      by_cases hk : i = k
      · subst hk
        by_cases hl : i < σ.length
        · rw [List.getElem?_set_self (by rw [wipe_length, List.length_set]; exact hl), List.getElem?_set_self (by rw [wipe_length]; exact hl)]
        · rw [List.getElem?_eq_none (by rw [List.length_set, wipe_length, List.length_set]; omega), List.getElem?_eq_none (by rw [List.length_set, wipe_length]; omega)]
      · rw [List.getElem?_set_ne hk, List.getElem?_set_ne hk]
        have : ∀ {ws : List Nat}, (wipe (σ.set i x) ws)[k]? = (wipe σ ws)[k]? := by
          intro ws
          induction ws with
          | nil => exact List.getElem?_set_ne hk
          | cons w ws ih =>
            unfold wipe
            by_cases hw : w = k
            · subst hw
              by_cases hl : w < σ.length
              · rw [List.getElem?_set_self (by rw [wipe_length, List.length_set]; exact hl), List.getElem?_set_self (by rw [wipe_length]; exact hl)]
              · rw [List.getElem?_eq_none (by rw [List.length_set, wipe_length, List.length_set]; omega), List.getElem?_eq_none (by rw [List.length_set, wipe_length]; omega)]
            · rw [List.getElem?_set_ne hw, List.getElem?_set_ne hw]; exact ih
        exact this
theorem wipe_wipe (σ : L2.St) : ∀ (ws vs : List Nat), (∀ i ∈ ws, i ∈ vs) → wipe (wipe σ ws) vs = wipe σ vs
  | [], _, _ => rfl
  | w :: ws, vs, h => by
    show wipe ((wipe σ ws).set w none) vs = wipe σ vs
    rw [wipe_set _ (h w List.mem_cons_self)]
    exact wipe_wipe σ ws vs fun i hi => h i (List.mem_cons_of_mem _ hi)
/-- a target that stores into the names at vs alone -/
def HGv (K : PySem.W.Frag) (W : WX) (PX : DX) (vs : List Nat) (t : TG) (j : DG) : Prop := ∀ T, WL K T PX W → ∀ σ F H ρ μ d v P (Q : L2.St → Hp → Prop), ROk K T ρ μ σ F H → Rep K F d v → j d ρ μ P →
  (∀ ρ' μ' σ' F' H', Gr F μ H F' μ' H' → ROk K T ρ' μ' σ' F' H' → wipe σ' vs = wipe σ vs → P ρ' μ' → Q σ' H') → t v σ H Q
def HGsv (K : PySem.W.Frag) (W : WX) (PX : DX) (vs : List Nat) (t : TGs) (j : DGs) : Prop := ∀ T, WL K T PX W → ∀ σ F H ρ μ ds xs P (Q : L2.St → Hp → Prop), ROk K T ρ μ σ F H → Reps K F ds xs → j ds ρ μ P →
  (∀ ρ' μ' σ' F' H', Gr F μ H F' μ' H' → ROk K T ρ' μ' σ' F' H' → wipe σ' vs = wipe σ vs → P ρ' μ' → Q σ' H') → t xs σ H Q
theorem hv_name {vs : List Nat} (i : Nat) (h : i ∈ vs) : HGv K W PX vs (gName i) (jName i) := fun T wl σ F H ρ μ d v P Q R r hf k => k _ _ _ _ _ .refl (R.set i r) (wipe_set σ h) hf
theorem hv_nil {vs : List Nat} : HGsv K W PX vs gNil jNil := by
  intro T wl σ F H ρ μ ds xs P Q R r hf k
  obtain ⟨rfl, p⟩ := hf
  unfold Reps at r
  exact ⟨r, k _ _ _ _ _ .refl R rfl p⟩
theorem hv_cons {vs : List Nat} {t : TG} {tr : TGs} {j : DG} {js : DGs} (h1 : HGv K W PX vs t j) (h2 : HGsv K W PX vs tr js) : HGsv K W PX vs (gCons t tr) (jCons j js) := by
  intro T wl σ F H ρ μ ds xs P Q R r hf k
  obtain ⟨d, dr, rfl, p⟩ := hf
  unfold Reps at r
  obtain ⟨v, vr, rfl, r1, r2⟩ := r
  refine ⟨v, vr, rfl, h1 T wl σ F H ρ μ d v _ _ R r1 p fun ρ1 μ1 σ1 F1 H1 g1 R1 w1 p1 => ?_⟩
  exact h2 T wl σ1 F1 H1 ρ1 μ1 dr vr P Q R1 (r2.mono g1.ex) p1 fun _ _ _ _ _ g2 R2 w2 => k _ _ _ _ _ (g1.trans g2) R2 (w2.trans w1)
theorem hv_tup {vs : List Nat} {n : Nat} {t : TGs} {js : DGs} (h : HGsv K W PX vs t js) : HGv K W PX vs (gTup K n t) (jTup n js) := by
  intro T wl σ F H ρ μ d v P Q R r hf k
  obtain ⟨ds, rfl, hl, p⟩ := hf
  obtain ⟨a, xs, rfl, h1, h2⟩ := rep_tup r
  exact ⟨a, xs, rfl, ex_t R.c.sub h1, by rw [← h2.length]; exact hl, h T wl σ F H ρ μ ds xs P Q R h2 p k⟩
def tYesD (_ : RE) (μ : Mu) (P : Bool → Mu → Prop) : Prop := P true μ
theorem dts_nil : PDTs X W PX [] tYes tYesD := ⟨pts_nil, fun T wl σ F H ρ μ P Q R hf k => k _ _ _ _ .refl R.c hf⟩
theorem dts_one (h : PDT X W PX c tt p) : PDTs X W PX [c] tt p := ⟨pts_one h.pe, h.he⟩
/-- a turn of a comprehension -/
def cTurn (vs : List Nat) (j : DG) (p : DT) (e : DE) (ρ : RE) (d : D) (acc : List D) (μ : Mu) (I : List D → Mu → Prop) : Prop :=
  j d (wipeD ρ vs) μ fun ρ2 μ2 => p ρ2 μ2 fun b μ3 => if b = true then e ρ2 μ3 fun y μ4 => I (acc ++ [y]) μ4 else I acc μ3
abbrev W0 : WX := fun _ _ _ _ => False
abbrev PX0 : DX := fun _ _ _ _ => False
theorem wl0 {T : Ent} : WL K T PX0 W0 := fun _ _ _ _ _ _ _ _ _ _ z => z
/-- the state within: the new list at L, its items acc -/
structure CSt (K : PySem.W.Frag) (T : Ent) (F1 : Hp) (μ1 : Mu) (H1 : Hp) (L : Addr) (ρ : RE) (σ : L2.St) (i : Nat) (I : List D → Mu → Prop) (H' : Hp) : Prop where
  ex : ∃ (acc : List D) (μ' : Mu) (F' : Hp) (ys : List V), Gr F1 μ1 H1 F' μ' H' ∧ ROk K T ρ μ' σ F' H' ∧ F' L = none ∧ μ' L = none ∧ H' L = some (.lst ys) ∧ Reps K F' acc ys ∧ acc.length ≤ i ∧ I acc μ'
theorem c_turn {T : Ent} {F1 H1 : Hp} {μ1 : Mu} {L : Addr} {ρ : RE} {σ : L2.St} {i : Nat} {I J : List D → Mu → Prop} {H' : Hp} {vs : List Nat} {t : TG} {j : DG} {tt : TT} {p : DT} {te : TE} {e : DE} {d : D} {y : V} (h0 : H1 L = none) (c1 : COk K T F1 μ1 H1)
    (hj : HGv K W0 PX0 vs t j) (hp : HT K W0 PX0 tt p) (he : HE K W0 PX0 te e) (hi : i < 100000) (C : CSt K T F1 μ1 H1 L ρ σ i I H') (hy : ∀ F' acc μ', Gr F1 μ1 H1 F' μ' H' → ROk K T ρ μ' σ F' H' → I acc μ' → Rep K F' d y)
    (hs : ∀ acc μ', I acc μ' → cTurn vs j p e ρ d acc μ' J) :
    t y (wipe σ vs) H' fun σ2 H2 => wipe σ2 vs = wipe σ vs ∧ tt σ2 H2 fun b H3 => if b = true then te σ2 H3 fun z H4 => ∃ acc, H4 L = some (.lst acc) ∧ acc.length < sizeLine ∧ CSt K T F1 μ1 H1 L ρ σ (i + 1) J (upd H4 L (.lst (acc ++ [z]))) else CSt K T F1 μ1 H1 L ρ σ (i + 1) J H3 := by
  obtain ⟨acc, μ2, F2, ys, g2, R2, fL, mL, hL, rA, la, i2⟩ := C.ex
  refine hj T wl0 _ F2 _ _ μ2 d y _ _ (R2.wipe vs) (hy F2 acc μ2 g2 R2 i2) (hs acc μ2 i2) fun ρ3 μ3 σ3 F3 H3 g3 R3 w3 q3 => ?_
  refine ⟨w3.trans (wipe_wipe σ vs vs fun _ z => z), ?_⟩
  refine hp T wl0 σ3 F3 H3 ρ3 μ3 _ _ R3 q3 fun b μ4 F4 H4 g4 c4 q4 => ?_
  have g34 := g3.trans g4
  cases b with
  | true =>
    rw [if_pos rfl] at q4
    rw [if_pos rfl]
    refine he T wl0 σ3 F4 H4 ρ3 μ4 _ _ (R3.go g4.ex c4) q4 fun z μ5 v F5 H5 g5 c5 r5 q5 => ?_
    have g35 := g34.trans g5
    obtain ⟨hL5, fL5, mL5⟩ := g35.fr L _ hL fL mL
    refine ⟨ys, hL5, by rw [← rA.length, sizeLine_eq]; omega, ⟨acc ++ [z], μ5, F5, ys ++ [v], ?_, ?_, fL5, mL5, upd_same, (rA.mono g35.ex).app (reps_cons r5 reps_nil), by rw [List.length_append]; simp; omega, q5⟩⟩
    · have gg := g2.trans g35
      exact ⟨gg.ex, fun x o hx fx mx => by
        obtain ⟨k1, k2, k3⟩ := gg.fr x o hx fx mx
        have ne : x ≠ L := fun z => by rw [z, h0] at hx; cases hx
        exact ⟨by rw [upd_ne ne]; exact k1, k2, k3⟩, fun x o h => let ⟨o1, h1⟩ := gg.th x o h; th_upd x o1 h1⟩
    · have cc : COk K T F5 μ5 (upd H5 L (.lst (ys ++ [v]))) := by
        refine ⟨⟨c5.gr.ex, fun x o hx fx mx => ?_, ?_⟩, c5.sub.mut fL5, fun x cc hx => ?_⟩
        · obtain ⟨k1, k2, k3⟩ := c5.gr.fr x o hx fx mx
          have ne : x ≠ L := fun z => by
            have k4 := (c1.gr.fr x o hx fx mx).1
            rw [z, h0] at k4
            cases k4
          exact ⟨by rw [upd_ne ne]; exact k1, k2, k3⟩
        · exact fun x o h => let ⟨o1, h1⟩ := c5.gr.th x o h; th_upd x o1 h1
        · obtain ⟨k1, k2⟩ := c5.cel x cc hx
          have ne : x ≠ L := fun z => by rw [z, mL5] at hx; cases hx
          refine ⟨k1, ?_⟩
          cases cc with
          | lst es =>
            obtain ⟨ws, k3, k4⟩ := k2
            exact ⟨ws, by rw [upd_ne ne]; exact k3, k4⟩
      exact R2.go g35.ex cc
  | false =>
    rw [if_neg Bool.false_ne_true] at q4
    rw [if_neg Bool.false_ne_true]
    obtain ⟨hL4, fL4, mL4⟩ := g34.fr L _ hL fL mL
    exact ⟨acc, μ4, F4, ys, g2.trans g34, R2.go g34.ex c4, fL4, mL4, hL4, rA.mono g34.ex, by omega, q4⟩
/-- what a comprehension over a list asks -/
def dLcI (f : DE) (vs : List Nat) (j : DG) (p : DT) (e : DE) (out : List D → Mu → DK → Prop) (ρ : RE) (μ : Mu) (P : DK) : Prop := f ρ μ fun x μ1 => ∃ ds, lstOf μ1 x = some ds ∧ ds.length ≤ 100000 ∧ ∃ I : Nat → List D → Mu → Prop, I 0 [] μ1 ∧ (∀ i acc μ', i ≤ ds.length → I i acc μ' → lstOf μ' x = some ds) ∧
  (∀ i d acc μ', ds[i]? = some d → I i acc μ' → cTurn vs j p e ρ d acc μ' (I (i + 1))) ∧ (∀ acc μ', I ds.length acc μ' → out acc μ' P)
def dLcT (f : DE) (vs : List Nat) (j : DG) (p : DT) (e : DE) (out : List D → Mu → DK → Prop) (ρ : RE) (μ : Mu) (P : DK) : Prop := f ρ μ fun x μ1 => ∃ ds, x = .tup ds ∧ ds.length ≤ 100000 ∧ ∃ I : Nat → List D → Mu → Prop, I 0 [] μ1 ∧
  (∀ i d acc μ', ds[i]? = some d → I i acc μ' → cTurn vs j p e ρ d acc μ' (I (i + 1))) ∧ (∀ acc μ', I ds.length acc μ' → out acc μ' P)
def dLcR (fas : DA) (vs : List Nat) (j : DG) (p : DT) (e : DE) (out : List D → Mu → DK → Prop) (ρ : RE) (μ : Mu) (P : DK) : Prop := fas ρ μ fun xs μ1 => ∃ n : Int, xs = [.int n] ∧ n ≤ 100000 ∧ -100000 ≤ n ∧ ∃ I : Nat → List D → Mu → Prop, I 0 [] μ1 ∧
  (∀ i acc μ', i < n.toNat → I i acc μ' → cTurn vs j p e ρ (.int (i : Nat)) acc μ' (I (i + 1))) ∧ (∀ acc μ', I n.toNat acc μ' → out acc μ' P)
/-- the list told as data, or as our own -/
def oFrz (acc : List D) (μ : Mu) (P : DK) : Prop := P (.lst acc) μ
def oOwn (acc : List D) (μ : Mu) (P : DK) : Prop := ∀ p, μ p = none → P (.ref p) (put μ p (.lst acc))
def OutOk (K : PySem.W.Frag) (out : List D → Mu → DK → Prop) : Prop := ∀ T F H μ L acc ys P (Q : VK), COk K T F μ H → F L = none → μ L = none → H L = some (.lst ys) → Reps K F acc ys → out acc μ P →
  (T.H L = none) → (∀ d μ' v F' H', (Ex F F' ∧ (∀ a o, a ≠ L → H a = some o → F a = none → μ a = none → H' a = some o ∧ F' a = none ∧ μ' a = none) ∧ ∀ a o, H a = some o → ∃ o', H' a = some o') → COk K T F' μ' H' → Rep K F' d v → P d μ' → Q v H') → Q (.ref L) H
theorem out_own : OutOk K oOwn := by
  intro T F H μ L acc ys P Q c fL mL hL r o tL k
  refine k _ (put μ L (.lst acc)) _ F H ⟨Ex.refl F, fun a u ne h f m => ⟨h, f, by rw [put_ne ne]; exact m⟩, fun _ o h => ⟨o, h⟩⟩ ⟨⟨c.gr.ex, fun a u h f m => ?_, c.gr.th⟩, c.sub, fun a cc e => ?_⟩ mk_ref (o L mL)
  · obtain ⟨k1, k2, k3⟩ := c.gr.fr a u h f m
    have ne : a ≠ L := fun z => by rw [z, tL] at h; cases h
    exact ⟨k1, k2, by rw [put_ne ne]; exact k3⟩
  · by_cases z : a = L
    · subst z
      rw [put_same] at e
      cases e
      exact ⟨fL, ys, hL, r⟩
    · rw [put_ne z] at e
      exact c.cel a cc e
theorem out_frz : OutOk K oFrz := by
  intro T F H μ L acc ys P Q c fL mL hL r o tL k
  have e1 : Ex F (upd F L (.lst ys)) := Ex.new fL
  refine k (.lst acc) μ _ (upd F L (.lst ys)) H ⟨e1, fun a u ne h f m => ⟨h, by rw [upd_ne ne]; exact f, m⟩, fun _ o h => ⟨o, h⟩⟩ ⟨⟨c.gr.ex.trans e1, fun a u h f m => ?_, c.gr.th⟩, fun a u e => ?_, fun a cc e => ?_⟩ (mk_lst upd_same (r.mono e1)) o
  · obtain ⟨k1, k2, k3⟩ := c.gr.fr a u h f m
    have ne : a ≠ L := fun z => by rw [z, tL] at h; cases h
    exact ⟨k1, by rw [upd_ne ne]; exact k2, k3⟩
  · by_cases z : a = L
    · subst z
      rw [upd_same] at e
      cases e
      exact hL
    · rw [upd_ne z] at e
      exact c.sub a u e
  · have ne : a ≠ L := fun z => by rw [z, mL] at e; cases e
    obtain ⟨h1, h2⟩ := c.cel a cc e
    refine ⟨by rw [upd_ne ne]; exact h1, ?_⟩
    cases cc with
    | lst es =>
      obtain ⟨ws', h5, h6⟩ := h2
      exact ⟨ws', h5, h6.mono e1⟩
theorem c_fin {T : Ent} {F1 H1 : Hp} {μ1 : Mu} {L : Addr} {ρ : RE} {σ : L2.St} {i : Nat} {I : List D → Mu → Prop} {H' : Hp} {out} {P : DK} {Q : VK} (ho : OutOk K out) (h0 : H1 L = none) (c1 : COk K T F1 μ1 H1) (C : CSt K T F1 μ1 H1 L ρ σ i I H') (hI : ∀ acc μ', I acc μ' → out acc μ' P)
    (k : ∀ d μ' v F' H', Gr F1 μ1 H1 F' μ' H' → COk K T F' μ' H' → Rep K F' d v → P d μ' → Q v H') : Q (.ref L) H' := by
  obtain ⟨acc, μ2, F2, ys, g2, R2, fL, mL, hL, rA, la, i2⟩ := C.ex
  have tL : T.H L = none := by
    cases e : T.H L with
    | none => rfl
    | some o =>
      obtain ⟨o', h⟩ := c1.gr.th L o e
      rw [h0] at h; cases h
  refine ho T F2 H' μ2 L acc ys P Q R2.c fL mL hL rA (hI acc μ2 i2) tL fun d μ' v F' H'' gg => k d μ' v F' H'' ⟨g2.ex.trans gg.1, fun a o h f m => ?_, fun a o h => let ⟨o1, h1⟩ := g2.th a o h; gg.2.2 a o1 h1⟩
  obtain ⟨k1, k2, k3⟩ := g2.fr a o h f m
  exact gg.2.1 a o (fun z => by rw [z, h0] at h; cases h) k1 k2 k3
end
end
section
section
variable {X : Cx} {W : WX} {PX : DX} {a b c e : Expr} {ta tb tc te : TE} {f g h : DE} {pos : Pos} {es rest : List Expr} {tas : TA} {fas : DA} {tt tu : TT} {p q : DT} {K : PySem.W.Frag}
variable {vs : List Nat} {t : TG} {j : DG} {fe : DE} {out : List D → Mu → DK → Prop} {tl : TE}
theorem he_lcI (ho : OutOk K out) (hl : HE K W PX tl f) (hj : HGv K W0 PX0 vs t j) (hp : HT K W0 PX0 tt p) (he : HE K W0 PX0 te fe) : HE K W PX (tLc (iList K tl) t tt te vs) (dLcI f vs j p fe out) := by
  intro T wl σ F H ρ μ P Q R hf k
  refine hl T wl σ F H ρ μ _ _ R hf fun x μ1 v F1 H1 g1 c1 r1 q1 => ?_
  obtain ⟨ds, e1, hz, I, i0, hI, hs, hd⟩ := q1
  obtain ⟨a, xs, rfl, h1, h2⟩ := lst_of c1 r1 e1
  refine ⟨a, rfl, ⟨xs, h1⟩, fun L hL => ?_⟩
  have R1 := R.go g1.ex c1
  have gz : Gr F1 μ1 H1 F1 μ1 (upd H1 L (.lst [])) := ⟨Ex.refl _, fun y o hy fy my => ⟨by rw [upd_ne (ne_of_none hy hL)]; exact hy, fy, my⟩, th_upd⟩
  have fL : F1 L = none := Ex.none c1.sub hL
  have mL : μ1 L = none := by
    cases e : μ1 L with
    | none => rfl
    | some cc =>
      obtain ⟨o, h3⟩ := (c1.cel L cc e).2.there
      rw [hL] at h3; cases h3
  have cz : COk K T F1 μ1 (upd H1 L (.lst [])) := ⟨c1.gr.trans gz, c1.sub.mut fL, fun y cc hy => by
    obtain ⟨k1, k2⟩ := c1.cel y cc hy
    have ne : y ≠ L := fun z => by rw [z, mL] at hy; cases hy
    refine ⟨k1, ?_⟩
    cases cc with
    | lst es =>
      obtain ⟨ws, k3, k4⟩ := k2
      exact ⟨ws, by rw [upd_ne ne]; exact k3, k4⟩⟩
  refine ⟨fun i m H' => m = ds.length - i ∧ i ≤ ds.length ∧ CSt K T F1 μ1 H1 L ρ σ i (I i) H', ⟨ds.length, rfl, Nat.zero_le _, ⟨[], μ1, F1, [], gz, R1.go (Ex.refl _) cz, fL, mL, upd_same, reps_nil, Nat.le_refl _, i0⟩⟩, ?_⟩
  rintro i m H2 ⟨rfl, hi, C⟩
  obtain ⟨acc, μ2, F2, ys, g2, R2, fL2, mL2, hL2, rA, la, i2⟩ := id C.ex
  obtain ⟨a', xs2, ea, h3, h4⟩ := lst_of R2.c (r1.mono g2.ex) (hI i acc μ2 hi i2)
  cases ea
  have hlen := h4.length
  by_cases hlt : i < ds.length
  · obtain ⟨y, hy, ry⟩ := h4.get (List.getElem?_eq_getElem hlt)
    refine .inr ⟨⟨xs2, y, h3, hy⟩, fun H' => CSt K T F1 μ1 H1 L ρ σ (i + 1) (I (i + 1)) H', fun H' hN => ⟨ds.length - (i + 1), by omega, rfl, hlt, hN⟩, fun z H' hz' => ?_⟩
    obtain ⟨rfl, hz'⟩ := hz'
    refine c_turn (J := I (i + 1)) (d := ds[i]) hL c1 hj hp he (by omega) C (fun F' acc' μ' g' R' i' => ?_) (fun acc' μ' i' => hs i _ acc' μ' (List.getElem?_eq_getElem hlt) i')
    obtain ⟨a3, xs3, ea3, h5, h6⟩ := lst_of R'.c (r1.mono g'.ex) (hI i acc' μ' hi i')
    cases ea3
    obtain ⟨y3, hy3, ry3⟩ := h6.get (List.getElem?_eq_getElem hlt)
    have ez : z = y3 := Option.some.inj ((hz' xs3 h5).symm.trans hy3)
    rw [ez]
    exact ry3
  · have e : i = ds.length := by omega
    subst e
    exact .inl ⟨⟨xs2, h3, by omega⟩, c_fin ho hL c1 C (fun acc' μ' i' => hd acc' μ' i') fun d μ' v F' H' g' => k d μ' v F' H' (g1.trans g')⟩
theorem c_start {T : Ent} {F1 H1 : Hp} {μ1 : Mu} {L : Addr} {ρ : RE} {σ : L2.St} {I : List D → Mu → Prop} (R1 : ROk K T ρ μ1 σ F1 H1) (hL : H1 L = none) (i0 : I [] μ1) : CSt K T F1 μ1 H1 L ρ σ 0 I (upd H1 L (.lst [])) := by
  have c1 := R1.c
  have gz : Gr F1 μ1 H1 F1 μ1 (upd H1 L (.lst [])) := ⟨Ex.refl _, fun y o hy fy my => ⟨by rw [upd_ne (ne_of_none hy hL)]; exact hy, fy, my⟩, th_upd⟩
  have fL : F1 L = none := Ex.none c1.sub hL
  have mL : μ1 L = none := by
    cases e : μ1 L with
    | none => rfl
    | some cc =>
      obtain ⟨o, h3⟩ := (c1.cel L cc e).2.there
      rw [hL] at h3; cases h3
  have cz : COk K T F1 μ1 (upd H1 L (.lst [])) := ⟨c1.gr.trans gz, c1.sub.mut fL, fun y cc hy => by
    obtain ⟨k1, k2⟩ := c1.cel y cc hy
    have ne : y ≠ L := fun z => by rw [z, mL] at hy; cases hy
    refine ⟨k1, ?_⟩
    cases cc with
    | lst es =>
      obtain ⟨ws, k3, k4⟩ := k2
      exact ⟨ws, by rw [upd_ne ne]; exact k3, k4⟩⟩
  exact ⟨[], μ1, F1, [], gz, R1.go (Ex.refl _) cz, fL, mL, upd_same, reps_nil, Nat.le_refl _, i0⟩
theorem he_lcT (ho : OutOk K out) (hl : HE K W PX tl f) (hj : HGv K W0 PX0 vs t j) (hp : HT K W0 PX0 tt p) (he : HE K W0 PX0 te fe) : HE K W PX (tLc (iTup K tl) t tt te vs) (dLcT f vs j p fe out) := by
  intro T wl σ F H ρ μ P Q R hf k
  refine hl T wl σ F H ρ μ _ _ R hf fun x μ1 v F1 H1 g1 c1 r1 q1 => ?_
  obtain ⟨ds, rfl, hz, I, i0, hs, hd⟩ := q1
  obtain ⟨a, xs, rfl, h1, h2⟩ := rep_tup r1
  refine ⟨a, rfl, ⟨xs, ex_t c1.sub h1⟩, fun L hL => ?_⟩
  refine ⟨fun i m H' => m = ds.length - i ∧ i ≤ ds.length ∧ CSt K T F1 μ1 H1 L ρ σ i (I i) H', ⟨ds.length, rfl, Nat.zero_le _, c_start (R.go g1.ex c1) hL i0⟩, ?_⟩
  rintro i m H2 ⟨rfl, hi, C⟩
  obtain ⟨acc, μ2, F2, ys, g2, R2, fL2, mL2, hL2, rA, la, i2⟩ := id C.ex
  have h3 : SqT K H2 a xs := ex_t R2.c.sub (ex_t g2.ex h1)
  have hlen := h2.length
  by_cases hlt : i < ds.length
  · obtain ⟨y, hy, ry⟩ := h2.get (List.getElem?_eq_getElem hlt)
    refine .inr ⟨⟨xs, y, h3, hy⟩, fun H' => CSt K T F1 μ1 H1 L ρ σ (i + 1) (I (i + 1)) H', fun H' hN => ⟨ds.length - (i + 1), by omega, rfl, hlt, hN⟩, fun z H' hz' => ?_⟩
    obtain ⟨rfl, hz'⟩ := hz'
    refine c_turn (J := I (i + 1)) (d := ds[i]) hL c1 hj hp he (by omega) C (fun F' acc' μ' g' R' i' => ?_) (fun acc' μ' i' => hs i _ acc' μ' (List.getElem?_eq_getElem hlt) i')
    have ez : z = y := Option.some.inj ((hz' xs h3).symm.trans hy)
    rw [ez]
    exact ry.mono g'.ex
  · have e : i = ds.length := by omega
    subst e
    exact .inl ⟨⟨xs, h3, by omega⟩, c_fin ho hL c1 C (fun acc' μ' i' => hd acc' μ' i') fun d μ' v F' H' g' => k d μ' v F' H' (g1.trans g')⟩
theorem he_lcR (ho : OutOk K out) (hl : HA K W PX tas fas) (hj : HGv K W0 PX0 vs t j) (hp : HT K W0 PX0 tt p) (he : HE K W0 PX0 te fe) : HE K W PX (tLc (iRng1 tas) t tt te vs) (dLcR fas vs j p fe out) := by
  intro T wl σ F H ρ μ P Q R hf k
  refine hl T wl σ F H ρ μ _ _ R hf fun ds μ1 ws F1 H1 g1 c1 r1 q1 => ?_
  obtain ⟨n, rfl, hn, hn2, I, i0, hs, hd⟩ := q1
  obtain ⟨v, rfl, r2⟩ := reps1 r1
  refine ⟨n, by rw [rep_int r2], by omega, by omega, fun L hL => ?_⟩
  refine lc_range (lo := 0) (n := n.toNat) (fun i H' => CSt K T F1 μ1 H1 L ρ σ i (I i) H') (c_start (R.go g1.ex c1) hL i0) (fun i H2 hi C => ?_) (fun H2 C => c_fin ho hL c1 C (fun acc' μ' i' => hd acc' μ' i') fun d μ' v F' H' g' => k d μ' v F' H' (g1.trans g'))
  have ez : (0 : Int) + (i : Nat) = (i : Nat) := Int.zero_add _
  rw [ez]
  exact c_turn (J := I (i + 1)) (d := .int (i : Nat)) hL c1 hj hp he (by omega) C (fun F' acc' μ' g' R' i' => mk_int) (fun acc' μ' i' => hs i acc' μ' hi i')
/-- the parts of a comprehension's block -/
structure Blk (X : Cx) (scope : Scope) (own : List (Str × Nat)) (tg elt : Expr) (ifs : List Expr) (t : TG) (tt : TT) (te : TE) (j : DG) (p : DT) (fe : DE) : Prop where
  ok : BlkOk X.N X.env.scope scope own
  pg : ∀ (s : Shared) (H : Hp) (C : Addr) (cl : List (Str × Addr)) (fp : List Addr), PG (X.blk s H scope (compEnvC scope cl C X.env) fp) tg t
  hj : HGv X.K W0 PX0 (own.map (·.2)) t j
  pt : ∀ (s : Shared) (H : Hp) (C : Addr) (cl : List (Str × Addr)) (fp : List Addr), PDTs (X.blk s H scope (compEnvC scope cl C X.env) fp) W0 PX0 ifs tt p
  he : ∀ (s : Shared) (H : Hp) (C : Addr) (cl : List (Str × Addr)) (fp : List Addr), PD (X.blk s H scope (compEnvC scope cl C X.env) fp) W0 PX0 elt te fe
theorem Blk.ht {scope own tg elt ifs t tt te j p fe} (B : Blk X scope own tg elt ifs t tt te j p fe) (s : Shared) : HT X.K W0 PX0 tt p := (B.pt s (fun _ => none) 0 [] []).he
theorem Blk.hE {scope own tg elt ifs t tt te j p fe} (B : Blk X scope own tg elt ifs t tt te j p fe) (s : Shared) : HE X.K W0 PX0 te fe := (B.he s (fun _ => none) 0 [] []).he
variable {scope : Scope} {own : List (Str × Nat)} {tg elt iter : Expr} {ifs : List Expr} {spos : Pos}
theorem pd_lcI (hc : X.calm = true) (hN : X.N.Nodup) (ho : OutOk X.K out) (hi : PD X W PX iter tl f) (B : Blk X scope own tg elt ifs t tt te j p fe) (hs : ∀ x, foldedSetIterable iter X.env x = pure x := by intro _; rfl) :
    PD X W PX (.ListComp elt [⟨tg, iter, ifs, 0⟩] scope pos) (tLc (iList X.K tl) t tt te (own.map (·.2))) (dLcI f (own.map (·.2)) j p fe out) :=
  ⟨pe_lc hc hN (pi_list hi.pe) B.ok B.pg (fun s H C cl fp => (B.pt s H C cl fp).pe) (fun s H C cl fp => (B.he s H C cl fp).pe) hs, he_lcI ho hi.he B.hj (B.ht X.s_0) (B.hE X.s_0)⟩
theorem pd_lcT (hc : X.calm = true) (hN : X.N.Nodup) (ho : OutOk X.K out) (hi : PD X W PX iter tl f) (B : Blk X scope own tg elt ifs t tt te j p fe) (hs : ∀ x, foldedSetIterable iter X.env x = pure x := by intro _; rfl) :
    PD X W PX (.ListComp elt [⟨tg, iter, ifs, 0⟩] scope pos) (tLc (iTup X.K tl) t tt te (own.map (·.2))) (dLcT f (own.map (·.2)) j p fe out) :=
  ⟨pe_lc hc hN (pi_tup hi.pe) B.ok B.pg (fun s H C cl fp => (B.pt s H C cl fp).pe) (fun s H C cl fp => (B.he s H C cl fp).pe) hs, he_lcT ho hi.he B.hj (B.ht X.s_0) (B.hE X.s_0)⟩
theorem pd_lcR {p1 p2 : Pos} (hc : X.calm = true) (hN : X.N.Nodup) (ho : OutOk X.K out) (hg : Gl X "range") (hm : X.mg "range" = none) (ha : PDA X W PX [a] tas fas) (B : Blk X scope own tg elt ifs t tt te j p fe)
    (hst : starEach [a] X.env = [(false, eval a X.env)] := by rfl) (hs : ∀ x, foldedSetIterable (.Call (.Name "range" p1) [a] [] p2) X.env x = pure x := by intro _; rfl) :
    PD X W PX (.ListComp elt [⟨tg, .Call (.Name "range" p1) [a] [] p2, ifs, 0⟩] scope pos) (tLc (iRng1 tas) t tt te (own.map (·.2))) (dLcR fas (own.map (·.2)) j p fe out) :=
  ⟨pe_lc hc hN (pi_range1 hg hm ha.pe hst) B.ok B.pg (fun s H C cl fp => (B.pt s H C cl fp).pe) (fun s H C cl fp => (B.he s H C cl fp).pe) hs, he_lcR ho ha.he B.hj (B.ht X.s_0) (B.hE X.s_0)⟩
theorem hv_gname (i : Nat) : HG K W PX (gName i) (jName i) := fun T wl σ F H ρ μ d v P Q R r hf k => k _ _ _ _ _ .refl (R.set i r) hf
/-- y = [..] -/
theorem sd_lcI {y : Str} {py : Pos} (i : Nat) (hc : X.calm = true) (hN : X.N.Nodup) (ho : OutOk X.K out) (hi : PD X W PX iter tl f) (B : Blk X scope own tg elt ifs t tt te j p fe) (hy : X.N[i]? = some y := by rfl) (hyl : X.env.scope.names.lookup y = some .local := by rfl)
    (hsw : swapsWith (.ListComp elt [⟨tg, iter, ifs, 0⟩] scope pos) (some (.Name y py)) spos.line X.env = pure true := by exact sw_true rfl rfl rfl (by decide +kernel)) (hs : ∀ x, foldedSetIterable iter X.env x = pure x := by intro _; rfl) :
    SD X W PX (.Assign [.Name y py] (.ListComp elt [⟨tg, iter, ifs, 0⟩] scope pos) spos) (tAsg (tLc (iList X.K tl) t tt te (own.map (·.2))) (gName i)) (dAsg (dLcI f (own.map (·.2)) j p fe out) (jName i)) :=
  ⟨ps_setLc hc hN hy hyl hsw (pi_list hi.pe) B.ok B.pg (fun s H C cl fp => (B.pt s H C cl fp).pe) (fun s H C cl fp => (B.he s H C cl fp).pe) hs, hs_asg (he_lcI ho hi.he B.hj (B.ht X.s_0) (B.hE X.s_0)) (hv_gname i)⟩
theorem sd_lcT {y : Str} {py : Pos} (i : Nat) (hc : X.calm = true) (hN : X.N.Nodup) (ho : OutOk X.K out) (hi : PD X W PX iter tl f) (B : Blk X scope own tg elt ifs t tt te j p fe) (hy : X.N[i]? = some y := by rfl) (hyl : X.env.scope.names.lookup y = some .local := by rfl)
    (hsw : swapsWith (.ListComp elt [⟨tg, iter, ifs, 0⟩] scope pos) (some (.Name y py)) spos.line X.env = pure true := by exact sw_true rfl rfl rfl (by decide +kernel)) (hs : ∀ x, foldedSetIterable iter X.env x = pure x := by intro _; rfl) :
    SD X W PX (.Assign [.Name y py] (.ListComp elt [⟨tg, iter, ifs, 0⟩] scope pos) spos) (tAsg (tLc (iTup X.K tl) t tt te (own.map (·.2))) (gName i)) (dAsg (dLcT f (own.map (·.2)) j p fe out) (jName i)) :=
  ⟨ps_setLc hc hN hy hyl hsw (pi_tup hi.pe) B.ok B.pg (fun s H C cl fp => (B.pt s H C cl fp).pe) (fun s H C cl fp => (B.he s H C cl fp).pe) hs, hs_asg (he_lcT ho hi.he B.hj (B.ht X.s_0) (B.hE X.s_0)) (hv_gname i)⟩
theorem sd_lcR {y : Str} {py p1 p2 : Pos} (i : Nat) (hc : X.calm = true) (hN : X.N.Nodup) (ho : OutOk X.K out) (hg : Gl X "range") (hm : X.mg "range" = none) (ha : PDA X W PX [a] tas fas) (B : Blk X scope own tg elt ifs t tt te j p fe) (hy : X.N[i]? = some y := by rfl) (hyl : X.env.scope.names.lookup y = some .local := by rfl)
    (hsw : swapsWith (.ListComp elt [⟨tg, .Call (.Name "range" p1) [a] [] p2, ifs, 0⟩] scope pos) (some (.Name y py)) spos.line X.env = pure true := by exact sw_true rfl rfl rfl (by decide +kernel)) (hst : starEach [a] X.env = [(false, eval a X.env)] := by rfl) (hs : ∀ x, foldedSetIterable (.Call (.Name "range" p1) [a] [] p2) X.env x = pure x := by intro _; rfl) :
    SD X W PX (.Assign [.Name y py] (.ListComp elt [⟨tg, .Call (.Name "range" p1) [a] [] p2, ifs, 0⟩] scope pos) spos) (tAsg (tLc (iRng1 tas) t tt te (own.map (·.2))) (gName i)) (dAsg (dLcR fas (own.map (·.2)) j p fe out) (jName i)) :=
  ⟨ps_setLc hc hN hy hyl hsw (pi_range1 hg hm ha.pe hst) B.ok B.pg (fun s H C cl fp => (B.pt s H C cl fp).pe) (fun s H C cl fp => (B.he s H C cl fp).pe) hs, hs_asg (he_lcR ho ha.he B.hj (B.ht X.s_0) (B.hE X.s_0)) (hv_gname i)⟩
end
/-! ### defs and their calls -/
/-- a def's promise, from its promise over data -/
def spD (K : PySem.W.Frag) (sp : DSp) : Sp := fun vs H Q E => ∃ F μ ds P PX, COk K ⟨F, μ, H⟩ F μ H ∧ Reps K F ds vs ∧ sp ds μ P PX ∧
  (∀ d v μ' F' H', Gr F μ H F' μ' H' → COk K ⟨F, μ, H⟩ F' μ' H' → Rep K F' d v → P d μ' → Q v H') ∧
  (∀ cls dx x μ' F' H', Gr F μ H F' μ' H' → COk K ⟨F, μ, H⟩ F' μ' H' → XRep K F' H' dx x → PX cls x μ' → E cls dx H')
/-- a def of the module: called by the name x -/
structure Df (P : Program) (w : World) (K : PySem.W.Frag) (mg : Str → Option Value) (base : Heap) (x : Str) (ps : List Str) (k : Nat) (sp : DSp) : Prop where
  ex : ∃ (f : Addr) (fd : FuncData), FnOk P w K mg base (L2.CX P w) k f fd ps (spD K sp) ∧ mg x = some (.ref f) ∧ PySem.W.keepIn K (.ref f) = true ∧ Binds K fd ps []
section
variable {X : Cx} {W : WX} {PX : DX} {e : Expr} {es : List Expr} {tas : TA} {fas : DA} {pos : Pos} {ps : List Str} {k : Nat} {sp : DSp}
def dCall (sp : DSp) (fas : DA) (PX : DX) (ρ : RE) (μ : Mu) (P : DK) : Prop := fas ρ μ fun ds μ1 => sp ds μ1 P fun cls x μ2 => PX ρ cls x μ2
theorem he_call {K : PySem.W.Frag} (ha : HA K W PX tas fas) : HE K W PX (tCallSD (spD K sp) [] (fun σ cls d H => W cls d σ H) tas) (dCall sp fas PX) := by
  intro T wl σ F H ρ μ P Q R hf k
  refine ha T wl σ F H ρ μ _ _ R hf fun ds μ1 vs F1 H1 g1 c1 r1 q1 => ?_
  refine ⟨F1, μ1, ds, P, _, ⟨.refl, c1.sub, c1.cel⟩, by rw [List.append_nil]; exact r1, q1, fun d v μ' F' H' g2 c2 r2 p => ?_, fun cls dx x μ' F' H' g2 c2 xr px => ?_⟩
  · exact k d μ' v F' H' (g1.trans g2) ⟨c1.gr.trans g2, c2.sub, c2.cel⟩ r2 p
  · exact wl ρ μ' σ F' H' cls dx x (R.go (g1.trans g2).ex ⟨c1.gr.trans g2, c2.sub, c2.cel⟩) xr px
end
end
section
section
variable {X : Cx} {W : WX} {PX : DX} {e o : Expr} {es : List Expr} {tas : TA} {fas : DA} {pos : Pos} {ps : List Str} {k : Nat} {sp : DSp} {K : PySem.W.Frag} {te : TE} {f : DE}
theorem pd_call {x : Str} {p : Pos} {j : Nat} (D : Df X.prog X.w X.K X.mg X.base x ps k sp) (tk : Takes X W) (hr : Room j X.A) (hg : Gl X x) (ha : PDA X W PX (e :: es) tas fas) (hk : k ≤ j := by decide) (hdb : (x == ("__debug__" : Str)) = false := by decide)
    (he : starEach (e :: es) X.env = (false, eval e X.env) :: starEach es X.env := by rfl) (hpl : (backTo pos (starEach es X.env)).any (·.1) = false := by rfl) : PD X W PX (.Call (.Name x p) (e :: es) [] pos) (tCallS (spD X.K sp) (WE W) tas) (dCall sp fas PX) := by
  obtain ⟨f, fd, F, hm, hk', hb⟩ := D.ex
  refine ⟨pe_callS (F.mono hk) hr hg hm hk' hb (fun σ => passAt tk σ) ha.pe hdb he hpl, ?_⟩
  intro T wl σ F H ρ μ P Q R hf k
  refine ha.he T wl σ F H ρ μ _ _ R hf fun ds μ1 vs F1 H1 g1 c1 r1 q1 => ?_
  refine ⟨F1, μ1, ds, P, _, ⟨.refl, c1.sub, c1.cel⟩, r1, q1, fun d v μ' F' H' g2 c2 r2 p => ?_, fun cls dx x μ' F' H' g2 c2 xr px => ?_⟩
  · exact k d μ' v F' H' (g1.trans g2) ⟨c1.gr.trans g2, c2.sub, c2.cel⟩ r2 p
  · exact wl ρ μ' σ F' H' cls dx x (R.go (g1.trans g2).ex ⟨c1.gr.trans g2, c2.sub, c2.cel⟩) xr px
/-- the names' data at the entry -/
def startD : Nat → List D → RE
  | 0, _ => []
  | n + 1, [] => none :: startD n []
  | n + 1, d :: ds => some d :: startD n ds
theorem startD_nil : ∀ n, startD n [] = List.replicate n none
  | 0 => rfl
  | n + 1 => by unfold startD; rw [startD_nil n]; rfl
theorem startD_len : ∀ (n : Nat) (ds : List D), (startD n ds).length = n
  | 0, _ => rfl
  | n + 1, [] => by unfold startD; rw [List.length_cons, startD_len n []]
  | n + 1, _ :: ds => by unfold startD; rw [List.length_cons, startD_len n ds]
theorem startD_at {F : Hp} : ∀ (n : Nat) (ds : List D) (vs : List V) (i : Nat) (d : D), Reps K F ds vs → ds.length ≤ n → (startD n ds)[i]? = some (some d) → ∃ v, (vs.map some ++ List.replicate (n - vs.length) none)[i]? = some (some v) ∧ Rep K F d v
  | 0, _, _, _, _, _, _, h => by unfold startD at h; cases h
  | n + 1, [], _, i, d, r, _, h => by
    rw [startD_nil] at h
    have := List.getElem?_replicate (a := (none : Option D)) (n := n + 1) (i := i)
    rw [this] at h
    split at h
    · cases h
    · cases h
  | n + 1, d0 :: ds, _, i, d, r, hl, h => by
    unfold Reps at r
    obtain ⟨v, vr, rfl, h2, h3⟩ := r
    unfold startD at h
    cases i with
    | zero =>
      have e : d0 = d := Option.some.inj (Option.some.inj (by simpa using h))
      subst e
      exact ⟨v, rfl, h2⟩
    | succ i =>
      obtain ⟨u, h4, h5⟩ := startD_at n ds vr i d h3 (by simpa using hl) (by simpa using h)
      refine ⟨u, ?_, h5⟩
      have : n + 1 - (v :: vr).length = n - vr.length := by simp
      rw [this]
      simpa using h4
end
section
variable {P : Program} {w : World} {K : PySem.W.Frag} {mg : Str → Option Value} {base : Heap}
/-- a def keeps its promise over data -/
theorem fn_D {x qual : Str} {st : Stmt} {f : Addr} {fd : FuncData} {N ps : List Str} {k : Nat} {sp : DSp} {g : DX → DS} (F : Fun K x qual st f fd) (S : FnScope N ps (defScope st)) (len : ∀ ds μ Q PX, sp ds μ Q PX → ds.length = ps.length)
    (hN : ps.length ≤ N.length)
    (hb : ∀ (cdv : Value) (A : Around) (outer : List Env) (s : Shared) (H : Hp) (E : XK) (PX : DX), Room k (A.deeper (envOfC qual (defScope st) s.heap.objs.size f cdv)) →
      Takes (cxOf (L2.CX P w) P w K mg base N qual (defScope st) f cdv A outer s H E) (fun cls d _ H => E cls d H) →
      PassesOwn (model P w) (A.deeper (envOfC qual (defScope st) s.heap.objs.size f cdv)) (envOfC qual (defScope st) s.heap.objs.size f cdv) (cxOf (L2.CX P w) P w K mg base N qual (defScope st) f cdv A outer s H E).xe →
      ∃ t, SSD (cxOf (L2.CX P w) P w K mg base N qual (defScope st) f cdv A outer s H E) (fun cls d _ H => E cls d H) PX (defBody st) t (g PX))
    (hg : ∀ ds μ Q PX, sp ds μ Q PX → g (fun _ cls x μ => PX cls x μ) { nx := fun _ μ => Q .non μ, rt := Q } (startD N.length ds) μ) : FnOk P w K mg base (L2.CX P w) (k + 1) f fd ps (spD K sp) := by
  refine F.okX S (fun vs H Q E h => ?_) (fun cdv A outer s H vs Q E hr h => ?_)
  · obtain ⟨F, μ, ds, P, PX, c, r, h, _⟩ := h
    rw [← r.length]
    exact len _ _ _ _ h
  · obtain ⟨F, μ, ds, Pq, PX, c, r, h, k1, k2⟩ := h
    obtain ⟨t, D⟩ := hb cdv A outer s H E (fun _ cls x μ => PX cls x μ) hr (takes_of rfl rfl rfl rfl) (passes_of rfl)
    refine ⟨t, D.pe, ?_⟩
    have hl := len _ _ _ _ h
    have R : ROk K ⟨F, μ, H⟩ (startD N.length ds) μ (L2.start N vs) F H := by
      refine ⟨c, ?_, fun i d e => startD_at N.length ds vs i d r (by omega) e⟩
      rw [startD_len]
      unfold L2.start
      rw [List.length_append, List.length_map, List.length_replicate, ← r.length]
      omega
    refine D.he ⟨F, μ, H⟩ (fun ρ μ' σ F' H' cls dx x R' xr px => k2 cls dx x μ' F' H' R'.c.gr R'.c xr px) _ F H _ μ _ _ R (hg ds μ Pq PX h) ⟨?_, ?_, ?_, ?_⟩
    · intro ρ' μ' σ' F' H' g' R' q
      exact k1 .non .non μ' F' H' g' R'.c mk_non q
    · intro d v μ' F' H' g' c' r' q
      exact k1 d v μ' F' H' g' c' r' q
    · intro _ _ _ _ _ _ _ q
      exact q.elim
    · intro _ _ _ _ _ _ _ q
      exact q.elim
theorem Df.of {x qual : Str} {st : Stmt} {f : Addr} {fd : FuncData} {ps : List Str} {k : Nat} {sp : DSp} (F : Fun K x qual st f fd) (h : FnOk P w K mg base (L2.CX P w) k f fd ps (spD K sp)) (hm : mg x = some (.ref f)) (hb : Binds K fd ps []) : Df P w K mg base x ps k sp :=
  ⟨f, fd, h, hm, F.kp, hb⟩
end
/-- an exception class of our own over ValueError, without __init__ -/
structure ExcK (K : PySem.W.Frag) (mg : Str → Option Value) (x : Str) (C : Addr) : Prop where
  q : PySem.W.excIn K C [.type "ValueError", .type "Exception", .type "BaseException", .type "object"] "ValueError.__new__" = true
  g : mg x = some (.ref C)
  k : PySem.W.keepIn K (.ref C) = true
  b : PySem.W.subIn K (.ref C) (.type "BaseException") = some true
  t : PySem.W.typeIn K (.ref C) = some (.type "type")
section
variable {X : Cx} {W : WX} {PX : DX} {a b e o : Expr} {es : List Expr} {tas : TA} {fas : DA} {pos : Pos} {K : PySem.W.Frag} {te ta tb : TE} {f g : DE}
def dRaise (C : Addr) (PX : DX) (_ : DN) (ρ : RE) (μ : Mu) : Prop := PX ρ (.ref C) none μ
theorem sd_raise {x m : Str} {j : Nat} {C : Addr} {p p2 pos2 : Pos} (hc : X.calm = true) (tk : Takes X W) (B : ExcK X.K X.mg x C) (hg : Gl X x) (hdb : (x == ("__debug__" : Str)) = false := by decide) :
    SD X W PX (.Raise (some (.Call (.Name x p) [.Constant (.str m) j p2] [] pos)) none pos2) (fun _ σ H => W (.ref C) none σ H) (dRaise C PX) := by
  refine ⟨ps_raise hc tk (pmk_own PySem.F.excBase_ValueError B.q B.g B.k (raises_own B.b B.t) hg hdb), fun T wl σ F H ρ μ N E R hf L => ?_⟩
  exact wl ρ μ σ F H (.ref C) none none R trivial hf
/-! ### isinstance by a built-in class -/
def tyOf (μ : Mu) : D → Option String
  | .non => some "NoneType"
  | .bl _ => some "bool"
  | .int _ => some "int"
  | .str _ => some "str"
  | .tup _ => some "tuple"
  | .lst _ => some "list"
  | .ref a => match μ a with
    | some (.lst _) => some "list"
    | none => none
  | _ => none
theorem ty_of {T F H μ x v t} (c : COk K T F μ H) (r : Rep K F x v) (h : tyOf μ x = some t) : TyX K H v (.type t) := by
  cases x with
  | non => rw [rep_non r]; cases h; exact .base .non
  | bl y => rw [rep_bl r]; cases h; exact .base (.bl y)
  | int y => rw [rep_int r]; cases h; exact .base (.int y)
  | str y => rw [rep_str r]; cases h; exact .base (.str y)
  | tup ds =>
    obtain ⟨a, xs, rfl, h1, _⟩ := rep_tup r
    cases h
    rcases h1 with (h1 | ⟨o, h1⟩) | ⟨o, its, n, h1, h2, _⟩
    · exact .base (.tup (c.sub _ _ h1))
    · exact .fTuple (c.sub _ _ h1)
    · exact .kTuple h1 h2
  | lst ds =>
    obtain ⟨a, xs, rfl, h1, _⟩ := rep_lst r
    cases h
    exact .base (.lst (c.sub _ _ h1))
  | ref a =>
    rw [rep_ref r]
    unfold tyOf at h
    dsimp only at h
    cases q : μ a with
    | none => rw [q] at h; cases h
    | some cc =>
      cases cc with
      | lst es =>
        rw [q] at h
        cases h
        obtain ⟨_, vs, h1, h2⟩ := c.cell q
        exact .base (.lst h1)
  | ro _ => cases h
  | ty _ => cases h
  | exc _ => cases h
def qIsi (xs : List D) (μ : Mu) (P : DK) : Prop := ∃ x n t r, xs = [x, .ty n] ∧ tyOf μ x = some t ∧ kitB t n = some r ∧ P (.bl r) μ
theorem oc_isi : OC K (rIsi K) qIsi := by
  intro T F H μ xs vs P Q c rs q k
  obtain ⟨x, n, t, r, rfl, h1, h2, q⟩ := q
  obtain ⟨v, u, rfl, r1, r2⟩ := reps2 rs
  have e : u = .ty n := by unfold Rep at r2; exact r2
  subst e
  exact ⟨v, .ty n, .type t, .type n, r, rfl, .ty n, ty_of c r1 h1, kit_ty h2, k _ _ _ _ _ .refl c mk_bl q⟩
theorem pd_isi {p : Pos} (hg : Gl X "isinstance") (hm : X.mg "isinstance" = none) (ha : PDA X W PX [a, b] tas fas) (he : starEach [a, b] X.env = (false, eval a X.env) :: starEach [b] X.env := by rfl) (hpl : (backTo pos (starEach [b] X.env)).any (·.1) = false := by rfl) :
    PD X W PX (.Call (.Name "isinstance" p) [a, b] [] pos) (tCB (rIsi X.K) tas) (dCB qIsi fas) := pd_blt call_isi oc_isi hg hm (by decide +kernel) ha (he := he) (hpl := hpl)
/-- a built-in class as a value -/
theorem pd_ty {x : Str} {n : String} (hg : Gl X x) (hm : X.mg x = none) (hv : bootBuiltins x = some (.type n)) (hn : x ≠ "__name__" := by decide) (hd : (x == ("__debug__" : Str)) = false := by decide) : PD X W PX (.Name x pos) (tC (.ty n)) (dC (.ty n)) :=
  pd_c (pe_bltn hg hm hv rfl hn hd) fun _ => mk_ty
theorem kit1 : kitB "int" "int" = some true := by decide +kernel
theorem kit2 : kitB "bool" "int" = some true := by decide +kernel
theorem kit3 : kitB "int" "bool" = some false := by decide +kernel
theorem kit4 : kitB "bool" "bool" = some true := by decide +kernel
theorem kit5 : kitB "tuple" "tuple" = some true := by decide +kernel
theorem kit6 : kitB "list" "list" = some true := by decide +kernel
theorem kit7 : kitB "str" "tuple" = some false := by decide +kernel
theorem kit8 : kitB "tuple" "int" = some false := by decide +kernel
theorem kit9 : kitB "NoneType" "tuple" = some false := by decide +kernel
theorem kit10 : kitB "NoneType" "list" = some false := by decide +kernel
/-! ### our own list's methods -/
def dMeth (q : D → List D → Mu → DK → Prop) (f : DE) (fas : DA) (ρ : RE) (μ : Mu) (P : DK) : Prop := f ρ μ fun x μ1 => fas ρ μ1 fun xs μ2 => q x xs μ2 P
def OM (K : PySem.W.Frag) (r : V → List V → Hp → VK → Prop) (q : D → List D → Mu → DK → Prop) : Prop := ∀ T F H μ x xs v vs P Q, COk K T F μ H → Rep K F x v → Reps K F xs vs → q x xs μ P →
  (∀ d μ' v F' H', Gr F μ H F' μ' H' → COk K T F' μ' H' → Rep K F' d v → P d μ' → Q v H') → r v vs H Q
/-- the receiver is a list (looked at ahead of the arguments) -/
def dMethL (q : D → List D → Mu → DK → Prop) (f : DE) (fas : DA) (ρ : RE) (μ : Mu) (P : DK) : Prop := f ρ μ fun x μ1 => (∃ ds, lstOf μ1 x = some ds) ∧ fas ρ μ1 fun xs μ2 => q x xs μ2 P
theorem he_methL {r q} (om : OM X.K r q) (hf : HE X.K W PX te f) (ha : HA X.K W PX tas fas) : HE X.K W PX (tBM X.K "list" r te tas) (dMethL q f fas) := by
  intro T wl σ F H ρ μ P Q R hq k
  refine hf T wl σ F H ρ μ _ _ R hq fun x μ1 v F1 H1 g1 c1 r1 q1 => ?_
  obtain ⟨⟨ds, hl⟩, q1⟩ := q1
  obtain ⟨a, vs, rfl, h1, h2⟩ := lst_of c1 r1 hl
  refine ⟨.inl ⟨rfl, vs, h1⟩, ?_⟩
  refine ha T wl σ F1 H1 ρ μ1 _ _ (R.go g1.ex c1) q1 fun xs μ2 vs F2 H2 g2 c2 r2 q2 => ?_
  exact om T F2 H2 μ2 x xs _ vs P Q c2 (r1.mono g2.ex) r2 q2 fun d μ' w F' H' g3 => k d μ' w F' H' ((g1.trans g2).trans g3)
theorem he_methL0 {r q} (om : OM X.K r q) (hf : HE X.K W PX te f) : HE X.K W PX (tBM0 X.K "list" r te) (dMethL q f aNil) := by
  intro T wl σ F H ρ μ P Q R hq k
  refine hf T wl σ F H ρ μ _ _ R hq fun x μ1 v F1 H1 g1 c1 r1 q1 => ?_
  obtain ⟨⟨ds, hl⟩, q1⟩ := q1
  obtain ⟨a, vs, rfl, h1, h2⟩ := lst_of c1 r1 hl
  exact ⟨.inl ⟨rfl, vs, h1⟩, om T F1 H1 μ1 x [] _ [] P Q c1 r1 reps_nil q1 fun d μ' w F' H' g3 => k d μ' w F' H' (g1.trans g3)⟩
def qAppend (x : D) (xs : List D) (μ : Mu) (P : DK) : Prop := ∃ p d ds, x = .ref p ∧ xs = [d] ∧ μ p = some (.lst ds) ∧ ds.length < 100000 ∧ P .non (put μ p (.lst (ds ++ [d])))
theorem om_append : OM K rAppend qAppend := by
  intro T F H μ x xs v vs P Q c r rs q k
  obtain ⟨p, d, ds, rfl, rfl, hp, hl, q⟩ := q
  obtain ⟨u, rfl, r1⟩ := reps1 rs
  obtain ⟨_, ws, h1, h2⟩ := c.cell hp
  obtain ⟨c2, g2⟩ := c.mut hp (h2.app (reps_cons r1 reps_nil))
  exact ⟨p, ws, u, rep_ref r, rfl, h1, by rw [← h2.length, sizeLine_eq]; omega, k _ _ _ _ _ g2 c2 mk_non q⟩
theorem pd_append {apos cpos : Pos} (ho : PD X W PX o te f) (ha : PDA X W PX [e] tas fas)
    (hbase : attributeBase o "append" X.env (eval o X.env) = eval o X.env := by rfl)
    (hfew : ((backTo cpos (starEach (e :: []) X.env)).all (fun x => !x.1) && (backToKw cpos (keywordEach [] X.env)).all (fun x => x.1.isSome)
      && decide ((e :: []).length + ([] : List Keyword).length + (if ([] : List Keyword).isEmpty then 0 else 1) < 30)) = true := by rfl)
    (hline : (apos.endLine == cpos.line) = true := by rfl) (hs : starEach (e :: []) X.env = (false, eval e X.env) :: starEach [] X.env := by rfl) (hplain : (backTo cpos (starEach [] X.env)).any (·.1) = false := by rfl) :
    PD X W PX (.Call (.Attribute o "append" apos) [e] [] cpos) (tBM X.K "list" rAppend te tas) (dMethL qAppend f fas) :=
  ⟨pe_bm PySem.F.plainAttrs_list PySem.F.slot_list_append PySem.F.type_list_append mt_append ho.pe ha.pe hbase hfew hline hs hplain, he_methL om_append ho.he ha.he⟩
def qClear (x : D) (xs : List D) (μ : Mu) (P : DK) : Prop := ∃ p ds, x = .ref p ∧ xs = [] ∧ μ p = some (.lst ds) ∧ P .non (put μ p (.lst []))
theorem om_clear : OM K rClear qClear := by
  intro T F H μ x xs v vs P Q c r rs q k
  obtain ⟨p, ds, rfl, rfl, hp, q⟩ := q
  obtain ⟨_, ws, h1, h2⟩ := c.cell hp
  obtain ⟨c2, g2⟩ := c.mut (vs := []) hp reps_nil
  unfold Reps at rs
  subst rs
  exact ⟨p, ws, rep_ref r, rfl, h1, k _ _ _ _ _ g2 c2 mk_non q⟩
theorem pd_clear {apos cpos : Pos} (ho : PD X W PX o te f) (hbase : attributeBase o "clear" X.env (eval o X.env) = eval o X.env := by rfl) (hline : (apos.endLine == cpos.line) = true := by rfl) :
    PD X W PX (.Call (.Attribute o "clear" apos) [] [] cpos) (tBM0 X.K "list" rClear te) (dMethL qClear f aNil) :=
  ⟨pe_bm0 PySem.F.plainAttrs_list PySem.F.slot_list_clear PySem.F.type_list_clear mt_clear ho.pe hbase hline, he_methL0 om_clear ho.he⟩
end
end
section
theorem shaped_int {i : Int} : SeqAt.shaped (.int i) = true := by
  unfold SeqAt.shaped PyData.canLay0 PyData.depth
  rfl
theorem py_int {i : Int} : py (.int i) = some (.int i) := by unfold py; rfl
theorem pyM_int {μ : Mu} {i : Int} : pyM μ (.int i) = some (.int i) := by unfold pyM py; rfl
theorem eqv_int {i j : Int} : PyData.eqv (.int i) (.int j) = (i == j) := by unfold PyData.eqv; rfl
theorem ixN_nat {n : Nat} {k : Int} (h0 : 0 ≤ k) (h1 : k < n) : ixN n k = some k.toNat := by
  unfold ixN
  rw [if_pos h0, if_pos h1]

theorem nbeq {i j : Int} : ((!(i == j)) = true) = ¬ i = j := by simp
theorem gcd_fmod (x y : Int) : Int.gcd y (x.fmod y) = Int.gcd x y := by
  rw [Int.fmod_def, Int.gcd_sub_mul_left_right, Int.gcd_comm]
theorem fmod_lt {x y : Int} (h : y ≠ 0) : (x.fmod y).natAbs < y.natAbs := by
  have h1 := Int.emod_nonneg x h
  have h2 := Int.emod_lt x h
  rw [Int.fmod_eq_emod]
  split
  · omega
  · rename_i h3
    have h4 : ¬ y ∣ x := fun z => h3 (.inr z)
    have h5 : x % y ≠ 0 := fun z => h4 (Int.dvd_of_emod_eq_zero z)
    omega
/-! ### bounds -/
theorem Bd.mono {m n : Nat} {i : Int} (h : Bd m i) (l : m ≤ n) : Bd n i := Nat.lt_of_lt_of_le h (Nat.pow_le_pow_right (by decide) l)
theorem Bd.mul {m n : Nat} {i j : Int} (h : Bd m i) (g : Bd n j) : Bd (m + n) (i * j) := by
  unfold Bd at *
  rw [Int.natAbs_mul, Nat.pow_add]
  exact Nat.mul_lt_mul'' h g
theorem Bd.add {m n : Nat} {i j : Int} (h : Bd m i) (g : Bd n j) : Bd (max m n + 1) (i + j) := by
  have h' := h.mono (Nat.le_max_left m n)
  have g' := g.mono (Nat.le_max_right m n)
  unfold Bd at *
  have := Int.natAbs_add_le i j
  rw [Nat.pow_succ]
  omega
theorem Bd.neg {n : Nat} {i : Int} (h : Bd n i) : Bd n (-i) := by unfold Bd at *; rw [Int.natAbs_neg]; exact h
theorem Bd.sub {m n : Nat} {i j : Int} (h : Bd m i) (g : Bd n j) : Bd (max m n + 1) (i - j) := by
  rw [Int.sub_eq_add_neg]
  exact h.add g.neg
theorem Bd.le {n : Nat} {i j : Int} (h : Bd n j) (l : i.natAbs ≤ j.natAbs) : Bd n i := Nat.lt_of_le_of_lt l h
instance {n : Nat} {i : Int} : Decidable (Bd n i) := inferInstanceAs (Decidable (_ < _))
theorem Bd.of {n : Nat} {i : Int} (h : i.natAbs < 2 ^ n) : Bd n i := h
theorem mulC {m n : Nat} {i j : Int} (h : Bd m i) (g : Bd n j) (l : m + n ≤ 1000000 := by decide) : MulC i j := ⟨m, n, h, g, l⟩
theorem divC {n : Nat} {i j : Int} (h : j ≠ 0) (g : Bd n j) (l : n ≤ 9000 := by decide) : DivC i j := ⟨h, g.mono l⟩
theorem sd_never {X : Cx} {W : WX} {PX : DX} {st : Stmt} : SD X W PX st tNever (fun _ _ _ => False) := ⟨ps_never, fun _ _ _ _ _ _ _ _ _ _ hf _ => hf.elim⟩
/-! ### fractions -/
/-- the greatest divisor with the sign of the second -/
def gsg (a b : Int) : Int := if b < 0 then 0 - (Int.gcd a b : Nat) else (Int.gcd a b : Nat)
/-- lowest terms -/
def low (a b : Int) : Int × Int := (a.fdiv (gsg a b), b.fdiv (gsg a b))
def fr (q : Int × Int) : D := .tup [.int q.1, .int q.2]
theorem gcd_ne {a b : Int} (h : b ≠ 0) : Int.gcd a b ≠ 0 := fun z => h (Int.gcd_eq_zero_iff.mp z).2
theorem gsg_ne {a b : Int} (h : b ≠ 0) : gsg a b ≠ 0 := by
  have := gcd_ne (a := a) h
  unfold gsg
  split <;> omega
theorem gcd_le_abs {a b : Int} (h : b ≠ 0) : Int.gcd a b ≤ b.natAbs := by
  have h1 : ((Int.gcd a b : Nat) : Int) ∣ b := Int.gcd_dvd_right a b
  have h2 : (Int.gcd a b) ∣ b.natAbs := Int.natAbs_dvd_natAbs.mpr h1 |> fun z => by simpa using z
  exact Nat.le_of_dvd (Int.natAbs_pos.mpr h) h2
theorem gsg_bd {n : Nat} {a b : Int} (h : b ≠ 0) (g : Bd n b) : Bd n (gsg a b) := by
  have h1 := gcd_le_abs (a := a) h
  unfold Bd gsg at *
  split <;> omega
theorem gsg_dvd_left (a b : Int) : gsg a b ∣ a := by
  have h := Int.gcd_dvd_left a b
  unfold gsg
  split
  · rw [Int.zero_sub]; exact Int.neg_dvd.mpr h
  · exact h
theorem gsg_dvd_right (a b : Int) : gsg a b ∣ b := by
  have h := Int.gcd_dvd_right a b
  unfold gsg
  split
  · rw [Int.zero_sub]; exact Int.neg_dvd.mpr h
  · exact h
/-! ### items at written places -/
section
variable {α : Type} {a b c d e : α} {l : List α}
theorem at_0 : atI (a :: l) 0 = some a := atI_nat (j := 0) rfl
theorem at_1 : atI (a :: b :: l) 1 = some b := atI_nat (j := 1) rfl
theorem at_2 : atI (a :: b :: c :: l) 2 = some c := atI_nat (j := 2) rfl
theorem at_3 : atI (a :: b :: c :: d :: l) 3 = some d := atI_nat (j := 3) rfl
theorem atm_1 : atI [a] (-1) = some a := rfl
theorem atm_2 : atI [a, b] (-1) = some b := rfl
theorem atm_3 : atI [a, b, c] (-1) = some c := rfl
theorem atm_4 : atI [a, b, c, d] (-1) = some d := rfl
theorem ix_1_0 : ixN 1 0 = some 0 := rfl
theorem ix_2_0 : ixN 2 0 = some 0 := rfl
theorem ix_2_1 : ixN 2 1 = some 1 := rfl
theorem ix_3_0 : ixN 3 0 = some 0 := rfl
theorem ix_3_1 : ixN 3 1 = some 1 := rfl
theorem ix_3_2 : ixN 3 2 = some 2 := rfl
theorem ix_4_0 : ixN 4 0 = some 0 := rfl
theorem ix_4_1 : ixN 4 1 = some 1 := rfl
theorem ix_4_2 : ixN 4 2 = some 2 := rfl
theorem ix_4_3 : ixN 4 3 = some 3 := rfl
theorem ix_5_0 : ixN 5 0 = some 0 := rfl
theorem ix_5_1 : ixN 5 1 = some 1 := rfl
theorem ix_5_2 : ixN 5 2 = some 2 := rfl
theorem ix_5_3 : ixN 5 3 = some 3 := rfl
theorem ix_5_4 : ixN 5 4 = some 4 := rfl
end
end
section
/-! ### the readings, reduced from the head -/
/-- a call: what follows it is not looked into ahead of time -/
inductive Tg (P : DK) (PX : Value → XD → Mu → Prop) : Type where
  | mk
def HoldS (sp : DSp) (ds : List D) (μ : Mu) (P : DK) (PX : Value → XD → Mu → Prop) (_ : Tg P PX) : Prop := sp ds μ P PX
section
variable {ρ : RE} {μ : Mu} {P : DK} {Pb : Bool → Mu → Prop} {Pl : List D → Mu → Prop} {Pe : RE → Mu → Prop} {Po : Option Int → Mu → Prop} {N : DN} {f g : DE} {fa : DA} {p q : DT} {u v : DS} {j : DG} {js : DGs} {d e : D} {ds es : List D} {i k : Nat} {a b c : Int} {x y : Bool} {z w : Str} {A : Addr} {qq : D → D → Mu → DK → Prop} {ql : List D → Mu → DK → Prop} {sp : DSp} {PX : DX} {o1 o2 : Option Int} {o : Option D}
theorem r_seq : dSeq u v N ρ μ = u { N with nx := v N } ρ μ := rfl
theorem r_next : dNext N ρ μ = N.nx ρ μ := rfl
theorem r_var0 : dVar 0 (some d :: ρ) μ P = P d μ := by simp [dVar]
theorem r_varS : dVar (i + 1) (o :: ρ) μ P = dVar i ρ μ P := by simp [dVar]
theorem r_c : dC d ρ μ P = P d μ := rfl
theorem r_op : dOp qq f g ρ μ P = f ρ μ fun x μ1 => g ρ μ1 fun y μ2 => qq x y μ2 P := rfl
theorem r_addI : qAdd (.int a) (.int b) μ P = P (.int (a + b)) μ := rfl
theorem r_addS : qAdd (.str z) (.str w) μ P = (z.length + w.length ≤ sizeLine ∧ P (.str (z ++ w)) μ) := rfl
theorem r_addT : qAdd (.tup ds) (.tup es) μ P = (ds ≠ [] ∧ ds.length + es.length ≤ sizeLine ∧ P (.tup (ds ++ es)) μ) := rfl
theorem r_addL : qAdd (.lst ds) (.lst es) μ P = (ds.length + es.length ≤ sizeLine ∧ P (.lst (ds ++ es)) μ) := by simp [qAdd, isOwn, seqOf]
theorem r_sub : qSub (.int a) (.int b) μ P = P (.int (a - b)) μ := by simp [qSub, qI]
theorem r_mul : qMul (.int a) (.int b) μ P = (MulC a b ∧ P (.int (a * b)) μ) := by simp [qMul, qI]
theorem r_div : qDiv (.int a) (.int b) μ P = (DivC a b ∧ P (.int (a.fdiv b)) μ) := by simp [qDiv, qI]
theorem r_mod : qMod (.int a) (.int b) μ P = (b ≠ 0 ∧ P (.int (a.fmod b)) μ) := by simp [qMod, qI]
theorem r_pow : qPow (.int a) (.int b) μ P = (PowC a b ∧ P (.int (a ^ b.toNat)) μ) := by simp [qPow, qI]
theorem r_lt : qLt (.int a) (.int b) μ P = P (.bl (decide (a < b))) μ := by simp [qLt, qB]
theorem r_le : qLe (.int a) (.int b) μ P = P (.bl (decide (a ≤ b))) μ := by simp [qLe, qB]
theorem r_gt : qGt (.int a) (.int b) μ P = P (.bl (decide (b < a))) μ := by simp [qGt, qB]
theorem r_ge : qGe (.int a) (.int b) μ P = P (.bl (decide (b ≤ a))) μ := by simp [qGe, qB]
theorem r_eqI : qEq (.int a) (.int b) μ P = P (.bl (decide (a = b))) μ := by
  simp [qEq, pyM_int, shaped_int, eqv_int, Bool.beq_eq_decide_eq]
theorem r_neI : qNe (.int a) (.int b) μ P = P (.bl (decide (¬ a = b))) μ := by
  simp [qNe, pyM_int, shaped_int, eqv_int, Bool.beq_eq_decide_eq]
theorem r_isN : qIs .non .non μ P = P (.bl true) μ := by simp [qIs, isNon]
theorem r_isT : qIs (.tup ds) .non μ P = P (.bl false) μ := by simp [qIs, isNon]
theorem r_isI : qIs (.int a) .non μ P = P (.bl false) μ := by simp [qIs, isNon]
theorem r_isR : qIs (.ref A) .non μ P = P (.bl false) μ := by simp [qIs, isNon]
theorem r_inN : qIsNot .non .non μ P = P (.bl false) μ := by simp [qIsNot, isNon]
theorem r_inT : qIsNot (.tup ds) .non μ P = P (.bl true) μ := by simp [qIsNot, isNon]
theorem r_inI : qIsNot (.int a) .non μ P = P (.bl true) μ := by simp [qIsNot, isNon]
/-- an item of a list of items -/
def ixL (ds : List D) (i : Int) (μ : Mu) (P : DK) : Prop := ∃ d, atI ds i = some d ∧ P d μ
theorem r_ixT : qIx (.tup ds) (.int a) μ P = ixL ds a μ P := by simp [qIx, seqOf, ixL]
theorem r_ixLs : qIx (.lst ds) (.int a) μ P = ixL ds a μ P := by simp [qIx, seqOf, ixL]
theorem r_ixRo : qIx (.ro ds) (.int a) μ P = ixL ds a μ P := by simp [qIx, seqOf, ixL]
theorem r_ixP : qIx (.ref A) (.int a) (put μ A (.lst ds)) P = ixL ds a (put μ A (.lst ds)) P := by simp [qIx, seqOf, ixL, put_same]
theorem r_ixR (h : μ A = some (.lst ds)) : qIx (.ref A) (.int a) μ P = ixL ds a μ P := by simp [qIx, seqOf, ixL, h]
variable {d0 d1 d2 d3 : D}
theorem r_at0 : ixL (d0 :: ds) 0 μ P = P d0 μ := by simp [ixL, at_0]
theorem r_at1 : ixL (d0 :: d1 :: ds) 1 μ P = P d1 μ := by simp [ixL, at_1]
theorem r_at2 : ixL (d0 :: d1 :: d2 :: ds) 2 μ P = P d2 μ := by simp [ixL, at_2]
theorem r_at3 : ixL (d0 :: d1 :: d2 :: d3 :: ds) 3 μ P = P d3 μ := by simp [ixL, at_3]
theorem r_at (h : 0 ≤ a) : ixL ds a μ P = ∃ d, ds[a.toNat]? = some d ∧ P d μ := by
  unfold ixL
  obtain ⟨n, rfl⟩ := Int.eq_ofNat_of_zero_le h
  have e2 : atI ds (n : Int) = ds[n]? := by
    by_cases hl : n < ds.length
    · rw [List.getElem?_eq_getElem hl]
      exact atI_nat (by simp [hl])
    · rw [List.getElem?_eq_none (by omega)]
      unfold atI ixN
      rw [if_pos (by omega), if_neg (by omega)]
      rfl
  rw [e2]
  rfl
theorem r_neg : dNeg f ρ μ P = f ρ μ fun x μ1 => ∃ i, x = .int i ∧ P (.int (-i)) μ1 := rfl
theorem r_negC : dNeg (dC (.int a)) ρ μ P = P (.int (-a)) μ := by simp [dNeg, dC]
theorem r_b : dB f ρ μ Pb = f ρ μ fun x μ1 => ∃ k, x = .bl k ∧ Pb k μ1 := rfl
theorem r_bl : (∃ k, D.bl x = .bl k ∧ Pb k μ) = Pb x μ := by simp
theorem r_and : dAnd p q ρ μ Pb = p ρ μ fun k μ1 => if k = true then q ρ μ1 Pb else Pb false μ1 := rfl
theorem r_or : dOr p q ρ μ Pb = p ρ μ fun k μ1 => if k = true then Pb true μ1 else q ρ μ1 Pb := rfl
theorem r_not : dNot p ρ μ Pb = p ρ μ fun k μ1 => Pb (!k) μ1 := rfl
theorem r_andV : dAndV f g ρ μ P = f ρ μ fun x μ1 => ∃ k, x = .bl k ∧ if k = true then g ρ μ1 P else P (.bl false) μ1 := rfl
theorem r_orV : dOrV f g ρ μ P = f ρ μ fun x μ1 => ∃ k, x = .bl k ∧ if k = true then P (.bl true) μ1 else g ρ μ1 P := rfl
theorem r_notV : dNotV f ρ μ P = f ρ μ fun x μ1 => ∃ k, x = .bl k ∧ P (.bl (!k)) μ1 := rfl
theorem r_bl' {R : Bool → Prop} : (∃ k, D.bl x = .bl k ∧ R k) = R x := by simp
theorem r_if : dIf p f g ρ μ P = p ρ μ fun k μ1 => if k = true then f ρ μ1 P else g ρ μ1 P := rfl
theorem r_ifS : dIfS p u v N ρ μ = p ρ μ fun k μ1 => if k = true then u N ρ μ1 else v N ρ μ1 := rfl
theorem r_asg : dAsg f j N ρ μ = f ρ μ fun x μ1 => j x ρ μ1 N.nx := rfl
theorem r_jnil : jNil [] ρ μ Pe = Pe ρ μ := by simp [jNil]
theorem r_jcons : jCons j js (d :: ds) ρ μ Pe = j d ρ μ fun ρ1 μ1 => js ds ρ1 μ1 Pe := by
  unfold jCons
  apply propext
  constructor
  · rintro ⟨d', r, e, h⟩
    cases e
    exact h
  · intro h
    exact ⟨d, ds, rfl, h⟩
theorem r_jtup : jTup k js (.tup ds) ρ μ Pe = (ds.length = k ∧ js ds ρ μ Pe) := by simp [jTup]
theorem r_jlst : jLst k js (.lst ds) ρ μ Pe = (ds.length = k ∧ js ds ρ μ Pe) := by simp [jLst, lstOf]
theorem r_jlstP : jLst k js (.ref A) ρ (put μ A (.lst ds)) Pe = (ds.length = k ∧ js ds ρ (put μ A (.lst ds)) Pe) := by simp [jLst, lstOf, put_same]
/-- an item stored -/
def stL (A : Addr) (ds : List D) (i : Int) (d : D) (ρ : RE) (μ : Mu) (Pe : RE → Mu → Prop) : Prop := ∃ n, ixN ds.length i = some n ∧ Pe ρ (put μ A (.lst (ds.set n d)))
theorem r_jsub : jSub f g d ρ μ Pe = f ρ μ fun o μ1 => g ρ μ1 fun i μ2 => stM o i d ρ μ2 Pe := rfl
theorem r_stP : stM (.ref A) (.int a) d ρ (put μ A (.lst ds)) Pe = stL A ds a d ρ μ Pe := by
  unfold stM
  unfold stL
  apply propext
  constructor
  · rintro ⟨p, k, ds', n, e1, e2, e3, e4, e5⟩
    cases e1
    cases e2
    rw [put_same] at e3
    cases e3
    rw [put_put] at e5
    exact ⟨n, e4, e5⟩
  · rintro ⟨n, e4, e5⟩
    exact ⟨A, a, ds, n, rfl, rfl, put_same, e4, by rw [put_put]; exact e5⟩
theorem r_st0 : stL A (d0 :: ds) 0 d ρ μ Pe = Pe ρ (put μ A (.lst (d :: ds))) := by
  unfold stL
  rw [ixN_nat (by omega) (by simp)]
  simp
theorem r_st1 : stL A (d0 :: d1 :: ds) 1 d ρ μ Pe = Pe ρ (put μ A (.lst (d0 :: d :: ds))) := by
  unfold stL
  rw [ixN_nat (by omega) (by simp; omega)]
  simp
theorem r_st2 : stL A (d0 :: d1 :: d2 :: ds) 2 d ρ μ Pe = Pe ρ (put μ A (.lst (d0 :: d1 :: d :: ds))) := by
  unfold stL
  rw [ixN_nat (by omega) (by simp; omega)]
  simp
theorem r_aug {o : Int → Int → Int} (h : ρ[i]? = some (some (.int a))) : dAugI o i f N ρ μ = f ρ μ fun y μ1 => ∃ n, y = .int n ∧ N.nx (ρ.set i (some (.int (o a n)))) μ1 := by
  unfold dAugI
  apply propext
  constructor
  · rintro ⟨m, e, q⟩
    rw [h] at e
    cases e
    exact q
  · exact fun q => ⟨a, h, q⟩
theorem r_ret : dRet f N ρ μ = f ρ μ N.rt := rfl
theorem r_retN : dRetN N ρ μ = N.rt .non μ := rfl
theorem r_drop : dDrop f N ρ μ = f ρ μ fun _ μ1 => N.nx ρ μ1 := rfl
theorem r_brk : dBreak N ρ μ = N.bk ρ μ := rfl
theorem r_cont : dCont N ρ μ = N.ct ρ μ := rfl
theorem r_raise : dRaise A PX N ρ μ = PX ρ (.ref A) none μ := rfl
theorem r_nil : aNil ρ μ Pl = Pl [] μ := rfl
theorem r_cons : aCons f fa ρ μ Pl = f ρ μ fun x μ1 => fa ρ μ1 fun xs μ2 => Pl (x :: xs) μ2 := rfl
theorem r_tup : dTup fa ρ μ P = fa ρ μ fun ds μ1 => ds.length ≤ 1000 ∧ P (.tup ds) μ1 := rfl
theorem r_lst : dLst fa ρ μ P = fa ρ μ fun ds μ1 => ds.length ≤ 1000 ∧ P (.lst ds) μ1 := rfl
theorem r_new : dNew fa ρ μ P = fa ρ μ fun ds μ1 => ds.length ≤ 1000 ∧ ∀ p, μ1 p = none → P (.ref p) (put μ1 p (.lst ds)) := rfl
theorem r_frz : dFrz f ρ μ P = f ρ μ fun x μ1 => frzQ x μ1 P := rfl
theorem r_frzP : frzQ (.ref A) (put μ A (.lst ds)) P = P (.lst ds) (del (put μ A (.lst ds)) A) := by
  unfold frzQ
  apply propext
  constructor
  · rintro ⟨p, ds', e1, e2, h⟩
    cases e1
    rw [put_same] at e2
    cases e2
    exact h
  · exact fun h => ⟨A, ds, rfl, put_same, h⟩
theorem r_cb : dCB ql fa ρ μ P = fa ρ μ fun xs μ1 => ql xs μ1 P := rfl
theorem r_call : dCall sp fa PX ρ μ P = fa ρ μ fun ds μ1 => HoldS sp ds μ1 P (fun cls x μ2 => PX ρ cls x μ2) .mk := rfl
theorem r_abs : qAbs [.int a] μ P = P (.int (a.natAbs : Int)) μ := by simp [qAbs]
theorem r_max : qMax [.int a, .int b] μ P = P (.int (max a b)) μ := by
  unfold qMax
  apply propext
  constructor
  · rintro ⟨i, j, h, q⟩
    cases h
    exact q
  · exact fun q => ⟨a, b, rfl, q⟩
theorem r_min : qMin [.int a, .int b] μ P = P (.int (min a b)) μ := by
  unfold qMin
  apply propext
  constructor
  · rintro ⟨i, j, h, q⟩
    cases h
    exact q
  · exact fun q => ⟨a, b, rfl, q⟩
theorem r_intI : qInt [.int a] μ P = P (.int a) μ := rfl
theorem r_intB : qInt [.bl x] μ P = P (.int (if x = true then 1 else 0)) μ := rfl
theorem r_lenT : qLen [.tup ds] μ P = P (.int ds.length) μ := by simp [qLen, seqOf]
theorem r_lenL : qLen [.lst ds] μ P = P (.int ds.length) μ := by simp [qLen, seqOf]
theorem r_lenR : qLen [.ro ds] μ P = P (.int ds.length) μ := by simp [qLen, seqOf]
theorem r_lenP : qLen [.ref A] (put μ A (.lst ds)) P = P (.int ds.length) (put μ A (.lst ds)) := by simp [qLen, seqOf, put_same]
theorem r_listL : qList [.lst ds] μ P = P (.lst ds) μ := by simp [qList, seqOf]
theorem r_listR : qList [.ro ds] μ P = P (.lst ds) μ := by simp [qList, seqOf]
theorem r_listOL : qListO [.lst ds] μ P = ∀ p, μ p = none → P (.ref p) (put μ p (.lst ds)) := by simp [qListO, seqOf]
theorem r_tupleL : qTuple [.lst ds] μ P = P (.tup ds) μ := by simp [qTuple, lstOf]
theorem r_tupleP : qTuple [.ref A] (put μ A (.lst ds)) P = P (.tup ds) (put μ A (.lst ds)) := by simp [qTuple, lstOf, put_same]
theorem isi_of {n t : String} {r : Bool} (h : tyOf μ d = some t) (k : kitB t n = some r) : qIsi [d, .ty n] μ P = P (.bl r) μ := by
  unfold qIsi
  apply propext
  constructor
  · rintro ⟨x, n', t', r', e, h1, h2, q⟩
    cases e
    rw [h] at h1
    cases h1
    rw [k] at h2
    cases h2
    exact q
  · exact fun q => ⟨d, n, t, r, rfl, h, k, q⟩
theorem r_isiII : qIsi [.int a, .ty "int"] μ P = P (.bl true) μ := isi_of rfl kit1
theorem r_isiIB : qIsi [.int a, .ty "bool"] μ P = P (.bl false) μ := isi_of rfl kit3
theorem r_isiBI : qIsi [.bl x, .ty "int"] μ P = P (.bl true) μ := isi_of rfl kit2
theorem r_isiBB : qIsi [.bl x, .ty "bool"] μ P = P (.bl true) μ := isi_of rfl kit4
theorem r_isiTT : qIsi [.tup ds, .ty "tuple"] μ P = P (.bl true) μ := isi_of rfl kit5
theorem r_isiLL : qIsi [.lst ds, .ty "list"] μ P = P (.bl true) μ := isi_of rfl kit6
theorem r_app : dMethL qAppend f fa ρ μ P = f ρ μ fun x μ1 => (∃ ds, lstOf μ1 x = some ds) ∧ fa ρ μ1 fun xs μ2 => qAppend x xs μ2 P := rfl
theorem r_appP : qAppend (.ref A) [d] (put μ A (.lst ds)) P = (ds.length < 100000 ∧ P .non (put μ A (.lst (ds ++ [d])))) := by
  unfold qAppend
  apply propext
  constructor
  · rintro ⟨p, d', ds', e1, e2, e3, h1, h2⟩
    cases e1
    cases e2
    rw [put_same] at e3
    cases e3
    rw [put_put] at h2
    exact ⟨h1, h2⟩
  · rintro ⟨h1, h2⟩
    exact ⟨A, d, ds, rfl, rfl, put_same, h1, by rw [put_put]; exact h2⟩
theorem r_clr : dMethL qClear f fa ρ μ P = f ρ μ fun x μ1 => (∃ ds, lstOf μ1 x = some ds) ∧ fa ρ μ1 fun xs μ2 => qClear x xs μ2 P := rfl
theorem r_clrP : qClear (.ref A) [] (put μ A (.lst ds)) P = P .non (put μ A (.lst [])) := by
  unfold qClear
  apply propext
  constructor
  · rintro ⟨p, ds', e1, _, e3, h⟩
    cases e1
    rw [put_put] at h
    exact h
  · intro h
    exact ⟨A, ds, rfl, rfl, put_same, by rw [put_put]; exact h⟩
theorem r_lstP : (∃ es, lstOf (put μ A (.lst ds)) (.ref A) = some es) = True := by simp [lstOf, put_same]
theorem r_cut {l h : DO} : dCut f l h ρ μ P = f ρ μ fun x μ1 => l ρ μ1 fun lo μ2 => h ρ μ2 fun hi μ3 => qCut x lo hi μ3 P := rfl
theorem r_onone : oNone ρ μ Po = Po none μ := rfl
theorem r_osome : oSome f ρ μ Po = f ρ μ fun x μ1 => ∃ i, x = .int i ∧ Po (some i) μ1 := rfl
theorem r_int' {R : Int → Prop} : (∃ k, D.int a = .int k ∧ R k) = R a := by simp
theorem r_cutT : qCut (.tup ds) o1 o2 μ P = (¬ (HT.sIx ds.length 0 o1 = 0 ∧ HT.sIx ds.length ds.length o2 = ds.length) ∧ P (.tup (cutL ds o1 o2)) μ) := rfl
theorem r_cutLs : qCut (.lst ds) o1 o2 μ P = P (.lst (cutL ds o1 o2)) μ := by simp [qCut, lstOf]
theorem r_cutP : qCut (.ref A) o1 o2 (put μ A (.lst ds)) P = P (.lst (cutL ds o1 o2)) (put μ A (.lst ds)) := by simp [qCut, lstOf, put_same]
theorem r_range1 : dRange1 fa j u N ρ μ = fa ρ μ fun xs μ1 => ∃ n : Int, xs = [.int n] ∧ n < 2 ^ 62 ∧ -(2 ^ 62) ≤ n ∧ dForR 0 n.toNat j u N ρ μ1 := rfl
theorem r_rg1 {R : Int → Prop} : (∃ n : Int, [D.int a] = [.int n] ∧ R n) = R a := by simp
theorem put_self {c : Cell} (h : μ A = some c) : put μ A c = μ := by
  funext b
  unfold put
  split
  · rename_i e
    rw [e, h]
  · rfl
end
/-! ### slots stored -/
def setR (ρ : RE) (i : Nat) (d : D) (C : RE → Prop) : Prop := C (ρ.set i (some d))
def setN (ρ : RE) (i : Nat) (C : RE → Prop) : Prop := C (ρ.set i none)
section
variable {x0 x1 x2 x3 x4 x5 x6 x7 x8 x9 x10 x11 x12 x13 x14 x15 x16 x17 x18 x19 x20 x21 x22 x23 x24 x25 : Option D} {ρ : RE} {d : D} {C : RE → Prop}
theorem r_s0 : setR (x0 :: ρ) 0 d C = C (some d :: ρ) := rfl
theorem r_n0 : setN (x0 :: ρ) 0 C = C (none :: ρ) := rfl
theorem r_s1 : setR (x0 :: x1 :: ρ) 1 d C = C (x0 :: some d :: ρ) := rfl
theorem r_n1 : setN (x0 :: x1 :: ρ) 1 C = C (x0 :: none :: ρ) := rfl
theorem r_s2 : setR (x0 :: x1 :: x2 :: ρ) 2 d C = C (x0 :: x1 :: some d :: ρ) := rfl
theorem r_n2 : setN (x0 :: x1 :: x2 :: ρ) 2 C = C (x0 :: x1 :: none :: ρ) := rfl
theorem r_s3 : setR (x0 :: x1 :: x2 :: x3 :: ρ) 3 d C = C (x0 :: x1 :: x2 :: some d :: ρ) := rfl
theorem r_n3 : setN (x0 :: x1 :: x2 :: x3 :: ρ) 3 C = C (x0 :: x1 :: x2 :: none :: ρ) := rfl
theorem r_s4 : setR (x0 :: x1 :: x2 :: x3 :: x4 :: ρ) 4 d C = C (x0 :: x1 :: x2 :: x3 :: some d :: ρ) := rfl
theorem r_n4 : setN (x0 :: x1 :: x2 :: x3 :: x4 :: ρ) 4 C = C (x0 :: x1 :: x2 :: x3 :: none :: ρ) := rfl
theorem r_s5 : setR (x0 :: x1 :: x2 :: x3 :: x4 :: x5 :: ρ) 5 d C = C (x0 :: x1 :: x2 :: x3 :: x4 :: some d :: ρ) := rfl
theorem r_n5 : setN (x0 :: x1 :: x2 :: x3 :: x4 :: x5 :: ρ) 5 C = C (x0 :: x1 :: x2 :: x3 :: x4 :: none :: ρ) := rfl
theorem r_s6 : setR (x0 :: x1 :: x2 :: x3 :: x4 :: x5 :: x6 :: ρ) 6 d C = C (x0 :: x1 :: x2 :: x3 :: x4 :: x5 :: some d :: ρ) := rfl
theorem r_n6 : setN (x0 :: x1 :: x2 :: x3 :: x4 :: x5 :: x6 :: ρ) 6 C = C (x0 :: x1 :: x2 :: x3 :: x4 :: x5 :: none :: ρ) := rfl
theorem r_s7 : setR (x0 :: x1 :: x2 :: x3 :: x4 :: x5 :: x6 :: x7 :: ρ) 7 d C = C (x0 :: x1 :: x2 :: x3 :: x4 :: x5 :: x6 :: some d :: ρ) := rfl
theorem r_n7 : setN (x0 :: x1 :: x2 :: x3 :: x4 :: x5 :: x6 :: x7 :: ρ) 7 C = C (x0 :: x1 :: x2 :: x3 :: x4 :: x5 :: x6 :: none :: ρ) := rfl
theorem r_s8 : setR (x0 :: x1 :: x2 :: x3 :: x4 :: x5 :: x6 :: x7 :: x8 :: ρ) 8 d C = C (x0 :: x1 :: x2 :: x3 :: x4 :: x5 :: x6 :: x7 :: some d :: ρ) := rfl
theorem r_n8 : setN (x0 :: x1 :: x2 :: x3 :: x4 :: x5 :: x6 :: x7 :: x8 :: ρ) 8 C = C (x0 :: x1 :: x2 :: x3 :: x4 :: x5 :: x6 :: x7 :: none :: ρ) := rfl
theorem r_s9 : setR (x0 :: x1 :: x2 :: x3 :: x4 :: x5 :: x6 :: x7 :: x8 :: x9 :: ρ) 9 d C = C (x0 :: x1 :: x2 :: x3 :: x4 :: x5 :: x6 :: x7 :: x8 :: some d :: ρ) := rfl
theorem r_n9 : setN (x0 :: x1 :: x2 :: x3 :: x4 :: x5 :: x6 :: x7 :: x8 :: x9 :: ρ) 9 C = C (x0 :: x1 :: x2 :: x3 :: x4 :: x5 :: x6 :: x7 :: x8 :: none :: ρ) := rfl
theorem r_s10 : setR (x0 :: x1 :: x2 :: x3 :: x4 :: x5 :: x6 :: x7 :: x8 :: x9 :: x10 :: ρ) 10 d C = C (x0 :: x1 :: x2 :: x3 :: x4 :: x5 :: x6 :: x7 :: x8 :: x9 :: some d :: ρ) := rfl
theorem r_n10 : setN (x0 :: x1 :: x2 :: x3 :: x4 :: x5 :: x6 :: x7 :: x8 :: x9 :: x10 :: ρ) 10 C = C (x0 :: x1 :: x2 :: x3 :: x4 :: x5 :: x6 :: x7 :: x8 :: x9 :: none :: ρ) := rfl
theorem r_s11 : setR (x0 :: x1 :: x2 :: x3 :: x4 :: x5 :: x6 :: x7 :: x8 :: x9 :: x10 :: x11 :: ρ) 11 d C = C (x0 :: x1 :: x2 :: x3 :: x4 :: x5 :: x6 :: x7 :: x8 :: x9 :: x10 :: some d :: ρ) := rfl
theorem r_n11 : setN (x0 :: x1 :: x2 :: x3 :: x4 :: x5 :: x6 :: x7 :: x8 :: x9 :: x10 :: x11 :: ρ) 11 C = C (x0 :: x1 :: x2 :: x3 :: x4 :: x5 :: x6 :: x7 :: x8 :: x9 :: x10 :: none :: ρ) := rfl
theorem r_s12 : setR (x0 :: x1 :: x2 :: x3 :: x4 :: x5 :: x6 :: x7 :: x8 :: x9 :: x10 :: x11 :: x12 :: ρ) 12 d C = C (x0 :: x1 :: x2 :: x3 :: x4 :: x5 :: x6 :: x7 :: x8 :: x9 :: x10 :: x11 :: some d :: ρ) := rfl
theorem r_n12 : setN (x0 :: x1 :: x2 :: x3 :: x4 :: x5 :: x6 :: x7 :: x8 :: x9 :: x10 :: x11 :: x12 :: ρ) 12 C = C (x0 :: x1 :: x2 :: x3 :: x4 :: x5 :: x6 :: x7 :: x8 :: x9 :: x10 :: x11 :: none :: ρ) := rfl
theorem r_s13 : setR (x0 :: x1 :: x2 :: x3 :: x4 :: x5 :: x6 :: x7 :: x8 :: x9 :: x10 :: x11 :: x12 :: x13 :: ρ) 13 d C = C (x0 :: x1 :: x2 :: x3 :: x4 :: x5 :: x6 :: x7 :: x8 :: x9 :: x10 :: x11 :: x12 :: some d :: ρ) := rfl
theorem r_n13 : setN (x0 :: x1 :: x2 :: x3 :: x4 :: x5 :: x6 :: x7 :: x8 :: x9 :: x10 :: x11 :: x12 :: x13 :: ρ) 13 C = C (x0 :: x1 :: x2 :: x3 :: x4 :: x5 :: x6 :: x7 :: x8 :: x9 :: x10 :: x11 :: x12 :: none :: ρ) := rfl
theorem r_s14 : setR (x0 :: x1 :: x2 :: x3 :: x4 :: x5 :: x6 :: x7 :: x8 :: x9 :: x10 :: x11 :: x12 :: x13 :: x14 :: ρ) 14 d C = C (x0 :: x1 :: x2 :: x3 :: x4 :: x5 :: x6 :: x7 :: x8 :: x9 :: x10 :: x11 :: x12 :: x13 :: some d :: ρ) := rfl
theorem r_n14 : setN (x0 :: x1 :: x2 :: x3 :: x4 :: x5 :: x6 :: x7 :: x8 :: x9 :: x10 :: x11 :: x12 :: x13 :: x14 :: ρ) 14 C = C (x0 :: x1 :: x2 :: x3 :: x4 :: x5 :: x6 :: x7 :: x8 :: x9 :: x10 :: x11 :: x12 :: x13 :: none :: ρ) := rfl
theorem r_s15 : setR (x0 :: x1 :: x2 :: x3 :: x4 :: x5 :: x6 :: x7 :: x8 :: x9 :: x10 :: x11 :: x12 :: x13 :: x14 :: x15 :: ρ) 15 d C = C (x0 :: x1 :: x2 :: x3 :: x4 :: x5 :: x6 :: x7 :: x8 :: x9 :: x10 :: x11 :: x12 :: x13 :: x14 :: some d :: ρ) := rfl
theorem r_n15 : setN (x0 :: x1 :: x2 :: x3 :: x4 :: x5 :: x6 :: x7 :: x8 :: x9 :: x10 :: x11 :: x12 :: x13 :: x14 :: x15 :: ρ) 15 C = C (x0 :: x1 :: x2 :: x3 :: x4 :: x5 :: x6 :: x7 :: x8 :: x9 :: x10 :: x11 :: x12 :: x13 :: x14 :: none :: ρ) := rfl
theorem r_s16 : setR (x0 :: x1 :: x2 :: x3 :: x4 :: x5 :: x6 :: x7 :: x8 :: x9 :: x10 :: x11 :: x12 :: x13 :: x14 :: x15 :: x16 :: ρ) 16 d C = C (x0 :: x1 :: x2 :: x3 :: x4 :: x5 :: x6 :: x7 :: x8 :: x9 :: x10 :: x11 :: x12 :: x13 :: x14 :: x15 :: some d :: ρ) := rfl
theorem r_n16 : setN (x0 :: x1 :: x2 :: x3 :: x4 :: x5 :: x6 :: x7 :: x8 :: x9 :: x10 :: x11 :: x12 :: x13 :: x14 :: x15 :: x16 :: ρ) 16 C = C (x0 :: x1 :: x2 :: x3 :: x4 :: x5 :: x6 :: x7 :: x8 :: x9 :: x10 :: x11 :: x12 :: x13 :: x14 :: x15 :: none :: ρ) := rfl
theorem r_s17 : setR (x0 :: x1 :: x2 :: x3 :: x4 :: x5 :: x6 :: x7 :: x8 :: x9 :: x10 :: x11 :: x12 :: x13 :: x14 :: x15 :: x16 :: x17 :: ρ) 17 d C = C (x0 :: x1 :: x2 :: x3 :: x4 :: x5 :: x6 :: x7 :: x8 :: x9 :: x10 :: x11 :: x12 :: x13 :: x14 :: x15 :: x16 :: some d :: ρ) := rfl
theorem r_n17 : setN (x0 :: x1 :: x2 :: x3 :: x4 :: x5 :: x6 :: x7 :: x8 :: x9 :: x10 :: x11 :: x12 :: x13 :: x14 :: x15 :: x16 :: x17 :: ρ) 17 C = C (x0 :: x1 :: x2 :: x3 :: x4 :: x5 :: x6 :: x7 :: x8 :: x9 :: x10 :: x11 :: x12 :: x13 :: x14 :: x15 :: x16 :: none :: ρ) := rfl
theorem r_s18 : setR (x0 :: x1 :: x2 :: x3 :: x4 :: x5 :: x6 :: x7 :: x8 :: x9 :: x10 :: x11 :: x12 :: x13 :: x14 :: x15 :: x16 :: x17 :: x18 :: ρ) 18 d C = C (x0 :: x1 :: x2 :: x3 :: x4 :: x5 :: x6 :: x7 :: x8 :: x9 :: x10 :: x11 :: x12 :: x13 :: x14 :: x15 :: x16 :: x17 :: some d :: ρ) := rfl
theorem r_n18 : setN (x0 :: x1 :: x2 :: x3 :: x4 :: x5 :: x6 :: x7 :: x8 :: x9 :: x10 :: x11 :: x12 :: x13 :: x14 :: x15 :: x16 :: x17 :: x18 :: ρ) 18 C = C (x0 :: x1 :: x2 :: x3 :: x4 :: x5 :: x6 :: x7 :: x8 :: x9 :: x10 :: x11 :: x12 :: x13 :: x14 :: x15 :: x16 :: x17 :: none :: ρ) := rfl
theorem r_s19 : setR (x0 :: x1 :: x2 :: x3 :: x4 :: x5 :: x6 :: x7 :: x8 :: x9 :: x10 :: x11 :: x12 :: x13 :: x14 :: x15 :: x16 :: x17 :: x18 :: x19 :: ρ) 19 d C = C (x0 :: x1 :: x2 :: x3 :: x4 :: x5 :: x6 :: x7 :: x8 :: x9 :: x10 :: x11 :: x12 :: x13 :: x14 :: x15 :: x16 :: x17 :: x18 :: some d :: ρ) := rfl
theorem r_n19 : setN (x0 :: x1 :: x2 :: x3 :: x4 :: x5 :: x6 :: x7 :: x8 :: x9 :: x10 :: x11 :: x12 :: x13 :: x14 :: x15 :: x16 :: x17 :: x18 :: x19 :: ρ) 19 C = C (x0 :: x1 :: x2 :: x3 :: x4 :: x5 :: x6 :: x7 :: x8 :: x9 :: x10 :: x11 :: x12 :: x13 :: x14 :: x15 :: x16 :: x17 :: x18 :: none :: ρ) := rfl
theorem r_s20 : setR (x0 :: x1 :: x2 :: x3 :: x4 :: x5 :: x6 :: x7 :: x8 :: x9 :: x10 :: x11 :: x12 :: x13 :: x14 :: x15 :: x16 :: x17 :: x18 :: x19 :: x20 :: ρ) 20 d C = C (x0 :: x1 :: x2 :: x3 :: x4 :: x5 :: x6 :: x7 :: x8 :: x9 :: x10 :: x11 :: x12 :: x13 :: x14 :: x15 :: x16 :: x17 :: x18 :: x19 :: some d :: ρ) := rfl
theorem r_n20 : setN (x0 :: x1 :: x2 :: x3 :: x4 :: x5 :: x6 :: x7 :: x8 :: x9 :: x10 :: x11 :: x12 :: x13 :: x14 :: x15 :: x16 :: x17 :: x18 :: x19 :: x20 :: ρ) 20 C = C (x0 :: x1 :: x2 :: x3 :: x4 :: x5 :: x6 :: x7 :: x8 :: x9 :: x10 :: x11 :: x12 :: x13 :: x14 :: x15 :: x16 :: x17 :: x18 :: x19 :: none :: ρ) := rfl
theorem r_s21 : setR (x0 :: x1 :: x2 :: x3 :: x4 :: x5 :: x6 :: x7 :: x8 :: x9 :: x10 :: x11 :: x12 :: x13 :: x14 :: x15 :: x16 :: x17 :: x18 :: x19 :: x20 :: x21 :: ρ) 21 d C = C (x0 :: x1 :: x2 :: x3 :: x4 :: x5 :: x6 :: x7 :: x8 :: x9 :: x10 :: x11 :: x12 :: x13 :: x14 :: x15 :: x16 :: x17 :: x18 :: x19 :: x20 :: some d :: ρ) := rfl
theorem r_n21 : setN (x0 :: x1 :: x2 :: x3 :: x4 :: x5 :: x6 :: x7 :: x8 :: x9 :: x10 :: x11 :: x12 :: x13 :: x14 :: x15 :: x16 :: x17 :: x18 :: x19 :: x20 :: x21 :: ρ) 21 C = C (x0 :: x1 :: x2 :: x3 :: x4 :: x5 :: x6 :: x7 :: x8 :: x9 :: x10 :: x11 :: x12 :: x13 :: x14 :: x15 :: x16 :: x17 :: x18 :: x19 :: x20 :: none :: ρ) := rfl
theorem r_s22 : setR (x0 :: x1 :: x2 :: x3 :: x4 :: x5 :: x6 :: x7 :: x8 :: x9 :: x10 :: x11 :: x12 :: x13 :: x14 :: x15 :: x16 :: x17 :: x18 :: x19 :: x20 :: x21 :: x22 :: ρ) 22 d C = C (x0 :: x1 :: x2 :: x3 :: x4 :: x5 :: x6 :: x7 :: x8 :: x9 :: x10 :: x11 :: x12 :: x13 :: x14 :: x15 :: x16 :: x17 :: x18 :: x19 :: x20 :: x21 :: some d :: ρ) := rfl
theorem r_n22 : setN (x0 :: x1 :: x2 :: x3 :: x4 :: x5 :: x6 :: x7 :: x8 :: x9 :: x10 :: x11 :: x12 :: x13 :: x14 :: x15 :: x16 :: x17 :: x18 :: x19 :: x20 :: x21 :: x22 :: ρ) 22 C = C (x0 :: x1 :: x2 :: x3 :: x4 :: x5 :: x6 :: x7 :: x8 :: x9 :: x10 :: x11 :: x12 :: x13 :: x14 :: x15 :: x16 :: x17 :: x18 :: x19 :: x20 :: x21 :: none :: ρ) := rfl
theorem r_s23 : setR (x0 :: x1 :: x2 :: x3 :: x4 :: x5 :: x6 :: x7 :: x8 :: x9 :: x10 :: x11 :: x12 :: x13 :: x14 :: x15 :: x16 :: x17 :: x18 :: x19 :: x20 :: x21 :: x22 :: x23 :: ρ) 23 d C = C (x0 :: x1 :: x2 :: x3 :: x4 :: x5 :: x6 :: x7 :: x8 :: x9 :: x10 :: x11 :: x12 :: x13 :: x14 :: x15 :: x16 :: x17 :: x18 :: x19 :: x20 :: x21 :: x22 :: some d :: ρ) := rfl
theorem r_n23 : setN (x0 :: x1 :: x2 :: x3 :: x4 :: x5 :: x6 :: x7 :: x8 :: x9 :: x10 :: x11 :: x12 :: x13 :: x14 :: x15 :: x16 :: x17 :: x18 :: x19 :: x20 :: x21 :: x22 :: x23 :: ρ) 23 C = C (x0 :: x1 :: x2 :: x3 :: x4 :: x5 :: x6 :: x7 :: x8 :: x9 :: x10 :: x11 :: x12 :: x13 :: x14 :: x15 :: x16 :: x17 :: x18 :: x19 :: x20 :: x21 :: x22 :: none :: ρ) := rfl
theorem r_s24 : setR (x0 :: x1 :: x2 :: x3 :: x4 :: x5 :: x6 :: x7 :: x8 :: x9 :: x10 :: x11 :: x12 :: x13 :: x14 :: x15 :: x16 :: x17 :: x18 :: x19 :: x20 :: x21 :: x22 :: x23 :: x24 :: ρ) 24 d C = C (x0 :: x1 :: x2 :: x3 :: x4 :: x5 :: x6 :: x7 :: x8 :: x9 :: x10 :: x11 :: x12 :: x13 :: x14 :: x15 :: x16 :: x17 :: x18 :: x19 :: x20 :: x21 :: x22 :: x23 :: some d :: ρ) := rfl
theorem r_n24 : setN (x0 :: x1 :: x2 :: x3 :: x4 :: x5 :: x6 :: x7 :: x8 :: x9 :: x10 :: x11 :: x12 :: x13 :: x14 :: x15 :: x16 :: x17 :: x18 :: x19 :: x20 :: x21 :: x22 :: x23 :: x24 :: ρ) 24 C = C (x0 :: x1 :: x2 :: x3 :: x4 :: x5 :: x6 :: x7 :: x8 :: x9 :: x10 :: x11 :: x12 :: x13 :: x14 :: x15 :: x16 :: x17 :: x18 :: x19 :: x20 :: x21 :: x22 :: x23 :: none :: ρ) := rfl
theorem r_s25 : setR (x0 :: x1 :: x2 :: x3 :: x4 :: x5 :: x6 :: x7 :: x8 :: x9 :: x10 :: x11 :: x12 :: x13 :: x14 :: x15 :: x16 :: x17 :: x18 :: x19 :: x20 :: x21 :: x22 :: x23 :: x24 :: x25 :: ρ) 25 d C = C (x0 :: x1 :: x2 :: x3 :: x4 :: x5 :: x6 :: x7 :: x8 :: x9 :: x10 :: x11 :: x12 :: x13 :: x14 :: x15 :: x16 :: x17 :: x18 :: x19 :: x20 :: x21 :: x22 :: x23 :: x24 :: some d :: ρ) := rfl
theorem r_n25 : setN (x0 :: x1 :: x2 :: x3 :: x4 :: x5 :: x6 :: x7 :: x8 :: x9 :: x10 :: x11 :: x12 :: x13 :: x14 :: x15 :: x16 :: x17 :: x18 :: x19 :: x20 :: x21 :: x22 :: x23 :: x24 :: x25 :: ρ) 25 C = C (x0 :: x1 :: x2 :: x3 :: x4 :: x5 :: x6 :: x7 :: x8 :: x9 :: x10 :: x11 :: x12 :: x13 :: x14 :: x15 :: x16 :: x17 :: x18 :: x19 :: x20 :: x21 :: x22 :: x23 :: x24 :: none :: ρ) := rfl
end
section
variable {ρ : RE} {μ : Mu} {P : DK} {Pe : RE → Mu → Prop} {N : DN} {f g : DE} {d e : D} {i k : Nat} {j : DG} {p : DT} {fe : DE} {vs : List Nat} {acc : List D} {I : List D → Mu → Prop} {C : RE → Prop} {v : Nat}
theorem r_name : jName i d ρ μ Pe = setR ρ i d fun ρ1 => Pe ρ1 μ := rfl
theorem r_par : dPar i k (aCons f (aCons g aNil)) N ρ μ = f ρ μ fun x μ1 => g ρ μ1 fun y μ2 => setR ρ i x fun ρ1 => setR ρ1 k y fun ρ2 => N.nx ρ2 μ2 := by
  unfold dPar aCons aNil setR
  congr 1
  funext x μ1
  congr 1
  funext y μ2
  apply propext
  constructor
  · rintro ⟨d, e, h, q⟩
    cases h
    exact q
  · exact fun q => ⟨x, y, rfl, q⟩
def wipR (ρ : RE) (vs : List Nat) (C : RE → Prop) : Prop := C (wipeD ρ vs)
variable {n1 n2 n3 n4 : Str} {v1 v2 v3 v4 : Nat}
theorem r_wm1 : wipR ρ (List.map (·.2) [(n1, v1)]) C = wipR ρ [v1] C := rfl
theorem r_wm2 : wipR ρ (List.map (·.2) [(n1, v1), (n2, v2)]) C = wipR ρ [v1, v2] C := rfl
theorem r_wm3 : wipR ρ (List.map (·.2) [(n1, v1), (n2, v2), (n3, v3)]) C = wipR ρ [v1, v2, v3] C := rfl
theorem r_wm4 : wipR ρ (List.map (·.2) [(n1, v1), (n2, v2), (n3, v3), (n4, v4)]) C = wipR ρ [v1, v2, v3, v4] C := rfl
theorem r_w0 : wipR ρ [] C = C ρ := rfl
theorem r_w1 : wipR ρ [v] C = setN ρ v C := rfl
theorem r_w2 {w : Nat} : wipR ρ [v, w] C = setN ρ w fun ρ1 => setN ρ1 v C := rfl
theorem r_w3 {w x : Nat} : wipR ρ [v, w, x] C = setN ρ x fun ρ1 => setN ρ1 w fun ρ2 => setN ρ2 v C := rfl
theorem r_w4 {w x y : Nat} : wipR ρ [v, w, x, y] C = setN ρ y fun ρ0 => setN ρ0 x fun ρ1 => setN ρ1 w fun ρ2 => setN ρ2 v C := rfl
theorem r_turn : cTurn vs j p fe ρ d acc μ I = wipR ρ vs fun ρ1 => j d ρ1 μ fun ρ2 μ2 => p ρ2 μ2 fun b μ3 => if b = true then fe ρ2 μ3 fun y μ4 => I (acc ++ [y]) μ4 else I acc μ3 := rfl
theorem r_yes {Pb : Bool → Mu → Prop} : tYesD ρ μ Pb = Pb true μ := rfl
theorem r_ofrz : oFrz acc μ P = P (.lst acc) μ := rfl
theorem r_oown : oOwn acc μ P = ∀ p, μ p = none → P (.ref p) (put μ p (.lst acc)) := rfl
/-- what a comprehension asks of what it walks -/
def lcTB (x : D) (vs : List Nat) (j : DG) (p : DT) (e : DE) (out : List D → Mu → DK → Prop) (ρ : RE) (μ : Mu) (P : DK) : Prop := ∃ ds, x = .tup ds ∧ ds.length ≤ 100000 ∧ ∃ I : Nat → List D → Mu → Prop, I 0 [] μ ∧
  (∀ i d acc μ', ds[i]? = some d → I i acc μ' → cTurn vs j p e ρ d acc μ' (I (i + 1))) ∧ (∀ acc μ', I ds.length acc μ' → out acc μ' P)
def lcIB (x : D) (vs : List Nat) (j : DG) (p : DT) (e : DE) (out : List D → Mu → DK → Prop) (ρ : RE) (μ : Mu) (P : DK) : Prop := ∃ ds, lstOf μ x = some ds ∧ ds.length ≤ 100000 ∧ ∃ I : Nat → List D → Mu → Prop, I 0 [] μ ∧ (∀ i acc μ', i ≤ ds.length → I i acc μ' → lstOf μ' x = some ds) ∧
  (∀ i d acc μ', ds[i]? = some d → I i acc μ' → cTurn vs j p e ρ d acc μ' (I (i + 1))) ∧ (∀ acc μ', I ds.length acc μ' → out acc μ' P)
def lcRB (xs : List D) (vs : List Nat) (j : DG) (p : DT) (e : DE) (out : List D → Mu → DK → Prop) (ρ : RE) (μ : Mu) (P : DK) : Prop := ∃ n : Int, xs = [.int n] ∧ n ≤ 100000 ∧ -100000 ≤ n ∧ ∃ I : Nat → List D → Mu → Prop, I 0 [] μ ∧
  (∀ i acc μ', i < n.toNat → I i acc μ' → cTurn vs j p e ρ (.int (i : Nat)) acc μ' (I (i + 1))) ∧ (∀ acc μ', I n.toNat acc μ' → out acc μ' P)
variable {out : List D → Mu → DK → Prop} {fa : DA} {ds : List D} {x : D}
theorem r_lcT : dLcT f vs j p fe out ρ μ P = f ρ μ fun x μ1 => lcTB x vs j p fe out ρ μ1 P := rfl
theorem r_lcI : dLcI f vs j p fe out ρ μ P = f ρ μ fun x μ1 => lcIB x vs j p fe out ρ μ1 P := rfl
theorem r_lcR : dLcR fa vs j p fe out ρ μ P = fa ρ μ fun xs μ1 => lcRB xs vs j p fe out ρ μ1 P := rfl
/-- a comprehension's turns, one after another -/
def cU (vs : List Nat) (j : DG) (p : DT) (e : DE) (ρ : RE) (C : List D → Mu → Prop) : List D → List D → Mu → Prop
  | [], acc, μ => C acc μ
  | d :: ds, acc, μ => cTurn vs j p e ρ d acc μ fun acc' μ' => cU vs j p e ρ C ds acc' μ'
theorem r_cU0 {C : List D → Mu → Prop} : cU vs j p fe ρ C [] acc μ = C acc μ := rfl
theorem r_cU1 {C : List D → Mu → Prop} : cU vs j p fe ρ C (d :: ds) acc μ = cTurn vs j p fe ρ d acc μ fun acc' μ' => cU vs j p fe ρ C ds acc' μ' := rfl
theorem lcT_u (hl : ds.length ≤ 100000) (h : cU vs j p fe ρ (fun acc μ => out acc μ P) ds [] μ) : lcTB (.tup ds) vs j p fe out ρ μ P := by
  refine ⟨ds, rfl, hl, fun i acc μ' => cU vs j p fe ρ (fun acc μ => out acc μ P) (ds.drop i) acc μ', h, fun i d acc μ' hd hi => ?_, fun acc μ' hi => ?_⟩
  · have hlt := (List.getElem?_eq_some_iff.mp hd).1
    have e : ds.drop i = d :: ds.drop (i + 1) := by
      rw [List.drop_eq_getElem_cons hlt]
      rw [(List.getElem?_eq_some_iff.mp hd).2]
    have hi' : cU vs j p fe ρ (fun acc μ => out acc μ P) (ds.drop i) acc μ' := hi
    rw [e] at hi'
    exact hi'
  · have hi' : cU vs j p fe ρ (fun acc μ => out acc μ P) (ds.drop ds.length) acc μ' := hi
    rw [List.drop_length] at hi'
    exact hi'
theorem lcI_u (hx : ∀ μ' : Mu, lstOf μ' x = some ds) (hl : ds.length ≤ 100000) (h : cU vs j p fe ρ (fun acc μ => out acc μ P) ds [] μ) : lcIB x vs j p fe out ρ μ P := by
  refine ⟨ds, hx μ, hl, fun i acc μ' => cU vs j p fe ρ (fun acc μ => out acc μ P) (ds.drop i) acc μ', h, fun i acc μ' _ _ => hx μ', fun i d acc μ' hd hi => ?_, fun acc μ' hi => ?_⟩
  · have hlt := (List.getElem?_eq_some_iff.mp hd).1
    have e : ds.drop i = d :: ds.drop (i + 1) := by
      rw [List.drop_eq_getElem_cons hlt]
      rw [(List.getElem?_eq_some_iff.mp hd).2]
    have hi' : cU vs j p fe ρ (fun acc μ => out acc μ P) (ds.drop i) acc μ' := hi
    rw [e] at hi'
    exact hi'
  · have hi' : cU vs j p fe ρ (fun acc μ => out acc μ P) (ds.drop ds.length) acc μ' := hi
    rw [List.drop_length] at hi'
    exact hi'
theorem lcR_u {n : Nat} (hl : n ≤ 1000) (h : cU vs j p fe ρ (fun acc μ => out acc μ P) ((List.range n).map fun i => .int (i : Nat)) [] μ) : lcRB [.int (n : Nat)] vs j p fe out ρ μ P := by
  refine ⟨n, rfl, by omega, by omega, fun i acc μ' => cU vs j p fe ρ (fun acc μ => out acc μ P) (((List.range n).map fun i => D.int (i : Nat)).drop i) acc μ', h, fun i acc μ' hd hi => ?_, fun acc μ' hi => ?_⟩
  · rw [Int.toNat_natCast] at hd
    have hlt : i < ((List.range n).map fun i => D.int (i : Nat)).length := by simpa using hd
    rw [List.drop_eq_getElem_cons hlt] at hi
    simp only [List.getElem_map, List.getElem_range] at hi
    exact hi
  · rw [Int.toNat_natCast] at hi
    rw [List.drop_eq_nil_of_le (by simp)] at hi
    exact hi
/-- a comprehension that changes nothing -/
theorem lcI_map {μ : Mu} (g : D → D) (hx : lstOf μ x = some ds) (hl : ds.length ≤ 100000) (hs : ∀ d ∈ ds, ∀ acc (I : List D → Mu → Prop), I (acc ++ [g d]) μ → cTurn vs j p fe ρ d acc μ I) (h : out (ds.map g) μ P) : lcIB x vs j p fe out ρ μ P := by
  refine ⟨ds, hx, hl, fun i acc μ' => μ' = μ ∧ acc = (ds.take i).map g, ⟨rfl, rfl⟩, fun i acc μ' _ e => by rw [e.1]; exact hx, fun i d acc μ' hd e => ?_, fun acc μ' e => ?_⟩
  · obtain ⟨rfl, rfl⟩ := e
    refine hs d (List.mem_of_getElem? hd) _ _ ⟨rfl, ?_⟩
    rw [List.take_add_one, hd, List.map_append]
    rfl
  · obtain ⟨rfl, rfl⟩ := e
    rw [List.take_length]
    exact h
end
theorem rs0 {ρ : RE} {d : Option D} {x : Option D} : (x :: ρ).set 0 d = d :: ρ := rfl
theorem rsS {ρ : RE} {i : Nat} {d x : Option D} : (x :: ρ).set (i + 1) d = x :: ρ.set i d := rfl
theorem ite_dec {c : Prop} [Decidable c] {A B : Prop} : (if decide c = true then A else B) = (if c then A else B) := by simp
theorem ite_ndec {c : Prop} [Decidable c] {A B : Prop} : (if (!decide c) = true then A else B) = (if c then B else A) := by
  by_cases h : c <;> simp [h]
theorem powC {i j : Int} (n : Nat) (h0 : 0 ≤ j := by decide) (h1 : Bd n i := by decide) (h2 : (n : Int) * j ≤ 2 ^ 27 := by decide) : PowC i j := ⟨h0, n, h1, h2⟩
theorem fmod_rng {x y : Int} (h : 0 < y) : 0 ≤ x.fmod y ∧ x.fmod y < y := ⟨Int.fmod_nonneg_of_pos x h, Int.fmod_lt_of_pos x h⟩
theorem fdiv_rng {x y n : Int} (h : 0 < y) (h0 : 0 ≤ x) (hn : x < n) : 0 ≤ x.fdiv y ∧ x.fdiv y < n := by
  rw [Int.fdiv_eq_ediv_of_nonneg x (by omega)]
  refine ⟨Int.ediv_nonneg h0 (by omega), ?_⟩
  have := Int.ediv_le_self y h0
  omega
theorem Bd.rng {n : Nat} {i m : Int} (h0 : 0 ≤ i) (h1 : i < m) (hm : m ≤ 2 ^ n) : Bd n i := by
  unfold Bd
  have : i < 2 ^ n := Int.lt_of_lt_of_le h1 hm
  have e : ((i.natAbs : Nat) : Int) < ((2 ^ n : Nat) : Int) := by
    rw [Int.natCast_pow]
    have : (i.natAbs : Int) = i := by omega
    rw [this]
    exact Int.lt_of_lt_of_le h1 hm
  exact Int.ofNat_lt.mp e
/-! ### a walk over written items, one after another -/
def fU (j : DG) (u : DS) (N : DN) : List D → RE → Mu → Prop
  | [], ρ, μ => N.nx ρ μ
  | d :: ds, ρ, μ => j d ρ μ fun ρ1 μ1 => u { N with nx := fU j u N ds, ct := fU j u N ds, bk := N.nx } ρ1 μ1
def forTB (x : D) (j : DG) (u : DS) (N : DN) (ρ : RE) (μ : Mu) : Prop := ∃ ds, x = .tup ds ∧ ∃ I : Nat → RE → Mu → Prop, I 0 ρ μ ∧
  (∀ i d ρ' μ', ds[i]? = some d → I i ρ' μ' → j d ρ' μ' fun ρ2 μ2 => u { N with nx := I (i + 1), ct := I (i + 1), bk := N.nx } ρ2 μ2) ∧ (∀ ρ' μ', I ds.length ρ' μ' → N.nx ρ' μ')
def forIB (x : D) (j : DG) (u : DS) (N : DN) (ρ : RE) (μ : Mu) : Prop := ∃ ds, lstOf μ x = some ds ∧ ∃ I : Nat → RE → Mu → Prop, I 0 ρ μ ∧ (∀ i ρ' μ', i ≤ ds.length → I i ρ' μ' → lstOf μ' x = some ds) ∧
  (∀ i d ρ' μ', ds[i]? = some d → I i ρ' μ' → j d ρ' μ' fun ρ2 μ2 => u { N with nx := I (i + 1), ct := I (i + 1), bk := N.nx } ρ2 μ2) ∧ (∀ ρ' μ', I ds.length ρ' μ' → N.nx ρ' μ')
section
variable {f : DE} {j : DG} {u : DS} {N : DN} {ρ : RE} {μ : Mu} {ds : List D} {d : D}
theorem r_forT : dForT f j u N ρ μ = f ρ μ fun x μ1 => forTB x j u N ρ μ1 := rfl
theorem r_forI : dForI f j u N ρ μ = f ρ μ fun x μ1 => forIB x j u N ρ μ1 := rfl
theorem r_fU0 : fU j u N [] ρ μ = N.nx ρ μ := rfl
theorem r_fU1 : fU j u N (d :: ds) ρ μ = j d ρ μ fun ρ1 μ1 => u { N with nx := fU j u N ds, ct := fU j u N ds, bk := N.nx } ρ1 μ1 := rfl
theorem forT_u (h : fU j u N ds ρ μ) : forTB (.tup ds) j u N ρ μ := by
  refine ⟨ds, rfl, fun i ρ' μ' => fU j u N (ds.drop i) ρ' μ', h, fun i d ρ' μ' hd hi => ?_, fun ρ' μ' hi => ?_⟩
  · have hlt := (List.getElem?_eq_some_iff.mp hd).1
    have e : ds.drop i = d :: ds.drop (i + 1) := by
      rw [List.drop_eq_getElem_cons hlt]
      rw [(List.getElem?_eq_some_iff.mp hd).2]
    have hi' : fU j u N (ds.drop i) ρ' μ' := hi
    rw [e] at hi'
    exact hi'
  · have hi' : fU j u N (ds.drop ds.length) ρ' μ' := hi
    rw [List.drop_length] at hi'
    exact hi'
/-- a range, one turn after another -/
theorem forR_u {n : Nat} (h : fU j u N ((List.range n).map fun i => .int (i : Nat)) ρ μ) : dForR 0 n j u N ρ μ := by
  refine ⟨fun i ρ' μ' => fU j u N (((List.range n).map fun i => D.int (i : Nat)).drop i) ρ' μ', h, fun i ρ' μ' hd hi => ?_, fun ρ' μ' hi => ?_⟩
  · have hlt : i < ((List.range n).map fun i => D.int (i : Nat)).length := by simpa using hd
    have hi' : fU j u N (((List.range n).map fun i => D.int (i : Nat)).drop i) ρ' μ' := hi
    rw [List.drop_eq_getElem_cons hlt] at hi'
    simp only [List.getElem_map, List.getElem_range] at hi'
    rw [Int.zero_add]
    exact hi'
  · have hi' : fU j u N (((List.range n).map fun i => D.int (i : Nat)).drop n) ρ' μ' := hi
    rw [List.drop_eq_nil_of_le (by simp)] at hi'
    exact hi'
end
/-- a purse: its number, how often it was filled, what it is filled by -/
def Purse (μ : Mu) (p : Addr) (m : Nat) : Prop := ∃ n c s : Int, μ p = some (.lst [.int n, .int c, .int s]) ∧ 0 ≤ n ∧ n < 10 ^ 600 ∧ 0 ≤ c ∧ c ≤ m ∧ Bd 300000 s
/-! ### the greatest of three -/
theorem call_max3 {X : Cx} (hc : X.calm = true) : CallR X (.builtin "max") (fun xs H Q => ∃ i j k, xs = [.int i, .int j, .int k] ∧ Q (.int (max (max i j) k)) H) := by
  intro pins s σ H xs us Q I r h
  obtain ⟨i, j, k, rfl, q⟩ := h
  cases r with
  | cons r1 r =>
    obtain ⟨u, w, rfl, r2, r3⟩ := vals2 r
    obtain ⟨t1, rfl⟩ := r1
    obtain ⟨t2, rfl⟩ := r2
    obtain ⟨t3, rfl⟩ := r3
    refine max_three_ints (I.ok.hd hc) fun h' tk hk => ⟨_, H, I.kept hk, ?_, q⟩
    by_cases h1 : j > i <;> by_cases h2 : k > j <;> by_cases h3 : k > i <;> simp only [h1, h2, h3, if_true, if_false] <;> exact ⟨_, by congr 1; omega⟩
def qMax3 (xs : List D) (μ : Mu) (P : DK) : Prop := ∃ i j k, xs = [.int i, .int j, .int k] ∧ P (.int (max (max i j) k)) μ
theorem pd_max3 {X : Cx} {W : WX} {PX : DX} {a b c : Expr} {tas : TA} {fas : DA} {pos p : Pos} (hc : X.calm = true) (hg : Gl X "max") (hm : X.mg "max" = none) (ha : PDA X W PX [a, b, c] tas fas) (he : starEach [a, b, c] X.env = (false, eval a X.env) :: starEach [b, c] X.env := by rfl) (hpl : (backTo pos (starEach [b, c] X.env)).any (·.1) = false := by rfl) :
    PD X W PX (.Call (.Name "max" p) [a, b, c] [] pos) (tCB (fun xs H Q => ∃ i j k, xs = [.int i, .int j, .int k] ∧ Q (.int (max (max i j) k)) H) tas) (dCB qMax3 fas) := by
  refine pd_blt (call_max3 hc) ?_ hg hm (by decide +kernel) ha (he := he) (hpl := hpl)
  intro T F H μ xs vs P Q c rs q k
  obtain ⟨i, j, l, rfl, q⟩ := q
  unfold Reps at rs
  obtain ⟨v, t, rfl, h1, h2⟩ := rs
  obtain ⟨v2, v3, rfl, h3, h4⟩ := reps2 h2
  exact ⟨i, j, l, by rw [rep_int h1, rep_int h3, rep_int h4], k _ _ _ _ _ .refl c mk_int q⟩
theorem r_max3 {a b c : Int} {μ : Mu} {P : DK} : qMax3 [.int a, .int b, .int c] μ P = P (.int (max (max a b) c)) μ := by
  unfold qMax3
  apply propext
  constructor
  · rintro ⟨i, j, k, h, q⟩
    cases h
    exact q
  · exact fun q => ⟨a, b, c, rfl, q⟩
end
section
/-! ### fractions, plain -/
/-- in lowest terms -/
def Fr (q : Int × Int) : Prop := 0 < q.2 ∧ Int.gcd q.1 q.2 = 1
def FB (n : Nat) (q : Int × Int) : Prop := Bd n q.1 ∧ Bd n q.2
theorem FB.mono {m n : Nat} {q : Int × Int} (h : FB m q) (l : m ≤ n) : FB n q := ⟨h.1.mono l, h.2.mono l⟩
def fadd (p q : Int × Int) : Int × Int := low (p.1 * q.2 + q.1 * p.2) (p.2 * q.2)
def fsub (p q : Int × Int) : Int × Int := low (p.1 * q.2 - q.1 * p.2) (p.2 * q.2)
def fmul (p q : Int × Int) : Int × Int := low (p.1 * q.1) (p.2 * q.2)
theorem low_mul (a b : Int) : (low a b).1 * gsg a b = a ∧ (low a b).2 * gsg a b = b :=
  ⟨Int.fdiv_mul_cancel (gsg_dvd_left a b), Int.fdiv_mul_cancel (gsg_dvd_right a b)⟩
theorem low_cross {a b : Int} (h : b ≠ 0) : (low a b).1 * b = a * (low a b).2 := by
  obtain ⟨h1, h2⟩ := low_mul a b
  generalize (low a b).1 = x at *
  generalize (low a b).2 = y at *
  generalize gsg a b = g at *
  rw [← h1, ← h2]
  grind
theorem gsg_abs (a b : Int) : (gsg a b).natAbs = Int.gcd a b := by unfold gsg; split <;> omega
theorem low_can {a b : Int} (h : b ≠ 0) : Fr (low a b) := by
  obtain ⟨h1, h2⟩ := low_mul a b
  have g0 := gsg_ne (a := a) h
  constructor
  · have hs : (0 < gsg a b ∧ 0 < b) ∨ (gsg a b < 0 ∧ b < 0) := by
      have := gcd_ne (a := a) h
      unfold gsg
      split <;> omega
    rcases hs with ⟨s1, s2⟩ | ⟨s1, s2⟩
    · apply Int.lt_of_not_ge
      intro z
      have := Int.mul_le_mul_of_nonneg_right z (Int.le_of_lt s1)
      omega
    · apply Int.lt_of_not_ge
      intro z
      have := Int.mul_le_mul_of_nonpos_right z (Int.le_of_lt s1)
      omega
  · have e : Int.gcd ((low a b).1 * gsg a b) ((low a b).2 * gsg a b) = Int.gcd (low a b).1 (low a b).2 * (gsg a b).natAbs := Int.gcd_mul_right ..
    rw [h1, h2, gsg_abs] at e
    have g1 := gcd_ne (a := a) h
    have : 1 * Int.gcd a b = Int.gcd (low a b).1 (low a b).2 * Int.gcd a b := by omega
    exact (Nat.eq_of_mul_eq_mul_right (Nat.pos_of_ne_zero g1) this).symm
theorem cop_dvd {b a d : Int} (h : b ∣ a * d) (g : Int.gcd a b = 1) : b ∣ d := by
  have h1 : b.natAbs ∣ a.natAbs * d.natAbs := by rw [← Int.natAbs_mul]; exact Int.natAbs_dvd_natAbs.mpr h
  have h2 : Nat.Coprime b.natAbs a.natAbs := by rw [Nat.Coprime, Nat.gcd_comm]; exact g
  exact Int.natAbs_dvd_natAbs.mp (h2.dvd_of_dvd_mul_left h1)
theorem fr_unique {p q : Int × Int} (hp : Fr p) (hq : Fr q) (e : p.1 * q.2 = q.1 * p.2) : p = q := by
  obtain ⟨a, b⟩ := p
  obtain ⟨c, d⟩ := q
  obtain ⟨h1, h2⟩ := hp
  obtain ⟨h3, h4⟩ := hq
  dsimp only at *
  have h5 : b ∣ d := by
    have : b ∣ a * d := ⟨c, by rw [e]; exact Int.mul_comm ..⟩
    exact cop_dvd this h2
  have h6 : d ∣ b := by
    have : d ∣ c * b := ⟨a, by rw [← e]; exact Int.mul_comm ..⟩
    exact cop_dvd this h4
  have h7 : b = d := Int.dvd_antisymm (by omega) (by omega) h5 h6
  subst h7
  have h8 : a = c := Int.eq_of_mul_eq_mul_right (by omega) e
  rw [h8]
theorem low_eq {a b c d : Int} (hb : b ≠ 0) (hd : d ≠ 0) (e : a * d = c * b) : low a b = low c d := by
  refine fr_unique (low_can hb) (low_can hd) ?_
  have h1 := low_cross (a := a) hb
  have h2 := low_cross (a := c) hd
  generalize low a b = p at *
  generalize low c d = q at *
  have : (p.1 * q.2) * (b * d) = (q.1 * p.2) * (b * d) := by
    have e1 : (p.1 * q.2) * (b * d) = (p.1 * b) * (q.2 * d) := by grind
    have e2 : (q.1 * p.2) * (b * d) = (q.1 * d) * (p.2 * b) := by grind
    rw [e1, e2, h1, h2]
    have e3 : a * p.2 * (q.2 * d) = (a * d) * (p.2 * q.2) := by grind
    have e4 : c * q.2 * (p.2 * b) = (c * b) * (p.2 * q.2) := by grind
    rw [e3, e4, e]
  exact Int.eq_of_mul_eq_mul_right (Int.mul_ne_zero hb hd) this
theorem low_fix {q : Int × Int} (h : Fr q) : low q.1 q.2 = q :=
  fr_unique (low_can (by have := h.1; omega)) h (low_cross (by have := h.1; omega))
theorem low_bd {m n : Nat} {a b : Int} (h : b ≠ 0) (ha : Bd m a) (hb : Bd n b) : Bd m (low a b).1 ∧ Bd n (low a b).2 := by
  obtain ⟨h1, h2⟩ := low_mul a b
  have g0 := gsg_ne (a := a) h
  have gp : 0 < (gsg a b).natAbs := Int.natAbs_pos.mpr g0
  constructor
  · refine ha.le ?_
    have : a.natAbs = (low a b).1.natAbs * (gsg a b).natAbs := by rw [← Int.natAbs_mul, h1]
    rw [this]
    exact Nat.le_mul_of_pos_right _ gp
  · refine hb.le ?_
    have : b.natAbs = (low a b).2.natAbs * (gsg a b).natAbs := by rw [← Int.natAbs_mul, h2]
    rw [this]
    exact Nat.le_mul_of_pos_right _ gp
theorem low_fb {n : Nat} {a b : Int} (h : b ≠ 0) (ha : Bd n a) (hb : Bd n b) : FB n (low a b) := low_bd h ha hb
theorem Fr.ne {q : Int × Int} (h : Fr q) : q.2 ≠ 0 := by have := h.1; omega
theorem mul_ne {p q : Int × Int} (hp : Fr p) (hq : Fr q) : p.2 * q.2 ≠ 0 := Int.mul_ne_zero hp.ne hq.ne
theorem fadd_can {p q} (hp : Fr p) (hq : Fr q) : Fr (fadd p q) := low_can (mul_ne hp hq)
theorem fsub_can {p q} (hp : Fr p) (hq : Fr q) : Fr (fsub p q) := low_can (mul_ne hp hq)
theorem fmul_can {p q} (hp : Fr p) (hq : Fr q) : Fr (fmul p q) := low_can (mul_ne hp hq)
theorem fadd_bd {m n : Nat} {p q} (hp : Fr p) (hq : Fr q) (bp : FB m p) (bq : FB n q) : FB (m + n + 1) (fadd p q) := by
  refine low_fb (mul_ne hp hq) (((bp.1.mul bq.2).add (bq.1.mul bp.2)).mono ?_) ((bp.2.mul bq.2).mono (by omega))
  omega
theorem fsub_bd {m n : Nat} {p q} (hp : Fr p) (hq : Fr q) (bp : FB m p) (bq : FB n q) : FB (m + n + 1) (fsub p q) := by
  refine low_fb (mul_ne hp hq) (((bp.1.mul bq.2).sub (bq.1.mul bp.2)).mono ?_) ((bp.2.mul bq.2).mono (by omega))
  omega
theorem fmul_bd {m n : Nat} {p q} (hp : Fr p) (hq : Fr q) (bp : FB m p) (bq : FB n q) : FB (m + n) (fmul p q) :=
  low_fb (mul_ne hp hq) (bp.1.mul bq.1) (bp.2.mul bq.2)
theorem fmul_low {p : Int × Int} {a b : Int} (hp : Fr p) (h : 0 < a) : fmul (fmul p (1, a)) (b, 1) = fmul p (low b a) := by
  have ha : a ≠ 0 := by omega
  have hpa : p.2 * a ≠ 0 := Int.mul_ne_zero hp.ne ha
  unfold fmul
  dsimp only
  have c1 := low_can (a := p.1 * 1) hpa
  have c2 := low_can (a := b) ha
  refine low_eq (by have := c1.1; omega) (Int.mul_ne_zero hp.ne c2.ne) ?_
  have e1 := low_cross (a := p.1 * 1) hpa
  have e2 := low_cross (a := b) ha
  generalize low (p.1 * 1) (p.2 * a) = u at *
  generalize low b a = v at *
  have : (u.1 * b * (p.2 * v.2)) * a = (p.1 * v.1 * (u.2 * 1)) * a := by
    have e3 : (u.1 * b * (p.2 * v.2)) * a = (u.1 * (p.2 * a)) * (b * v.2) := by grind
    have e4 : (p.1 * v.1 * (u.2 * 1)) * a = (v.1 * a) * (p.1 * u.2) := by grind
    rw [e3, e4, e1, e2]
    grind
  exact Int.eq_of_mul_eq_mul_right ha this
/-! ### signs -/
def sgn (i : Int) : Int := (if 0 < i then 1 else 0) - (if i < 0 then 1 else 0)
def sgb (x y u : Int) : Int := if 0 ≤ sgn x * sgn y then sgn (sgn x + sgn y) else if y * y * u < x * x then sgn x else sgn y
inductive Mom where
  | q (f : Int × Int)
  | r (a b c s : Int)
def Mom.d : Mom → D
  | .q f => fr f
  | .r a b c s => .tup [.int a, .int b, .int c, .int s]
/-- a moment whose numbers are below 2 ^ n -/
def Mom.Ok (n : Nat) : Mom → Prop
  | .q f => Fr f ∧ FB n f
  | .r a b c s => 0 < a ∧ Bd n a ∧ Bd n b ∧ Bd n c ∧ (s = 0 ∨ s = 1)
structure Cur where
  a : Int × Int
  b : Int × Int
  c : Int × Int
def Cur.d (u : Cur) : D := .tup [fr u.a, fr u.b, fr u.c]
structure Cur.Ok (n : Nat) (u : Cur) : Prop where
  fa : Fr u.a
  fb : Fr u.b
  fc : Fr u.c
  ba : FB n u.a
  bb : FB n u.b
  bc : FB n u.c
def worth (u : Cur) (x : Int × Int) : Int × Int := fadd (fmul (fadd (fmul u.a x) u.b) x) u.c
/-- the sign of a curve's worth at a moment -/
def wsign (u : Cur) : Mom → Int
  | .q x => sgn (worth u x).1
  | .r a b c s =>
    let steep := fsub u.b (fmul u.a (low b a))
    let rest := fsub u.c (fmul u.a (low c a))
    let two := steep.1 * rest.2
    let one := 2 * a * rest.1 * steep.2 - b * two
    sgb one (two * (2 * s - 1)) (b * b - 4 * a * c)
def ofInt (i : Int) : Int × Int := (i, 1)
theorem fr_int (i : Int) : Fr (ofInt i) := ⟨by show (0 : Int) < 1; decide, by simp [ofInt]⟩
/-- one moment against another one -/
def mcmp : Mom → Mom → Int
  | .q x, .q y => sgn (x.1 * y.2 - y.1 * x.2)
  | .r a b c s, .q y => wsign ⟨(0, 1), (1, 1), (0 - y.1, y.2)⟩ (.r a b c s)
  | .q x, .r a b c s => 0 - wsign ⟨(0, 1), (1, 1), (0 - x.1, x.2)⟩ (.r a b c s)
  | .r a b c s, .r a' b' c' s' =>
    let h := wsign ⟨ofInt a', ofInt b', ofInt c'⟩ (.r a b c s)
    if h = 0 then s - s' else if h < 0 then 1 - 2 * s' else wsign ⟨(0, 1), ofInt (2 * a'), ofInt b'⟩ (.r a b c s)
theorem sgn_low {a b : Int} (h : 0 < b) : sgn (low a b).1 = sgn a := by
  have c := low_cross (a := a) (show b ≠ 0 by omega)
  have p := (low_can (a := a) (show b ≠ 0 by omega)).1
  generalize (low a b).1 = x at *
  generalize (low a b).2 = y at *
  have h1 : (0 < x) ↔ (0 < a) := by
    constructor
    · intro hx
      have := Int.mul_pos hx h
      rw [c] at this
      apply Int.lt_of_not_ge
      intro z
      have := Int.mul_le_mul_of_nonneg_right z (Int.le_of_lt p)
      omega
    · intro ha
      have := Int.mul_pos ha p
      rw [← c] at this
      apply Int.lt_of_not_ge
      intro z
      have := Int.mul_le_mul_of_nonneg_right z (Int.le_of_lt h)
      omega
  have h2 : (x < 0) ↔ (a < 0) := by
    constructor
    · intro hx
      have := Int.mul_neg_of_neg_of_pos hx h
      rw [c] at this
      apply Int.lt_of_not_ge
      intro z
      have := Int.mul_nonneg z (Int.le_of_lt p)
      omega
    · intro ha
      have := Int.mul_neg_of_neg_of_pos ha p
      rw [← c] at this
      apply Int.lt_of_not_ge
      intro z
      have := Int.mul_nonneg z (Int.le_of_lt h)
      omega
  unfold sgn
  simp only [h1, h2]
theorem fr_neg {y : Int × Int} (h : Fr y) : Fr (0 - y.1, y.2) := ⟨h.1, by rw [Int.zero_sub, Int.neg_gcd]; exact h.2⟩
theorem fsub_zero {y : Int × Int} (h : Fr y) : fsub (0, 1) y = (0 - y.1, y.2) := by
  have e : fsub (0, 1) y = low (0 - y.1) y.2 := by
    unfold fsub
    dsimp only
    rw [Int.zero_mul, Int.mul_one, Int.one_mul]
  rw [e]
  exact low_fix (fr_neg h)
theorem fr01 : Fr (0, 1) := fr_int 0
theorem fr11 : Fr (1, 1) := fr_int 1
theorem worth_less {x y : Int × Int} (hx : Fr x) (hy : Fr y) : sgn (worth ⟨(0, 1), (1, 1), (0 - y.1, y.2)⟩ x).1 = sgn (x.1 * y.2 - y.1 * x.2) := by
  have e1 : fmul (0, 1) x = (0, 1) := by
    unfold fmul
    dsimp only
    rw [low_eq (c := 0) (d := 1) (by have := hx.ne; omega) (by decide) (by simp)]
    decide
  have e2 : fadd (0, 1) (1, 1) = (1, 1) := by decide
  have e3 : fmul (1, 1) x = x := by
    unfold fmul
    dsimp only
    rw [Int.one_mul, Int.one_mul]
    exact low_fix hx
  unfold worth
  dsimp only
  rw [e1, e2, e3]
  unfold fadd
  dsimp only
  rw [sgn_low (Int.mul_pos hx.1 hy.1)]
  congr 1
  grind
theorem one_bd {n : Nat} {a : Int} (h : 0 < a) (b : Bd n a) : Bd n 1 := b.le (by omega)
section
variable {μ : Mu} {P : DK} {p : Int × Int} {ds : List D} {i : Int}
theorem r_fr0 : qIx (fr p) (.int 0) μ P = P (.int p.1) μ := by unfold fr; rw [r_ixT, r_at0]
theorem r_fr1 : qIx (fr p) (.int 1) μ P = P (.int p.2) μ := by unfold fr; rw [r_ixT, r_at1]
theorem r_frL : qLen [fr p] μ P = P (.int 2) μ := by unfold fr; rw [r_lenT]; rfl
theorem r_frN : qIs (fr p) .non μ P = P (.bl false) μ := r_isT
theorem r_frNN : qIsNot (fr p) .non μ P = P (.bl true) μ := r_inT
theorem ixL_all (h0 : 0 ≤ i) (h1 : i < ds.length) (h : ∀ d ∈ ds, P d μ) : ixL ds i μ P := by
  rw [r_at h0]
  have hl : i.toNat < ds.length := by omega
  exact ⟨ds[i.toNat], List.getElem?_eq_getElem hl, h _ (List.getElem_mem hl)⟩
end
theorem Purse.mono {μ : Mu} {p : Addr} {m n : Nat} (h : Purse μ p m) (l : m ≤ n) : Purse μ p n := by
  obtain ⟨a, b, c, h1, h2, h3, h4, h5, h6⟩ := h
  exact ⟨a, b, c, h1, h2, h3, h4, by omega, h6⟩
theorem Purse.put {μ : Mu} {p : Addr} {a b : Cell} {m : Nat} (h : Purse (put (put μ p a) p b) p m) : Purse (put μ p b) p m := by rwa [put_put] at h
/-! ### constants of the module -/
def CG (K : PySem.W.Frag) (mg : Str → Option Value) (x : Str) (d : D) : Prop := ∃ v : V, ∃ u : Value, mg x = some u ∧ RelV v u ∧ Rep K (fun _ => none) d v
theorem pd_const {X : Cx} {W : WX} {PX : DX} {pos : Pos} {x : Str} {d : D} (hg : Gl X x) (c : CG X.K X.mg x d) (hd : (x == ("__debug__" : Str)) = false := by decide) : PD X W PX (.Name x pos) (tC (Classical.choose c)) (dC d) := by
  obtain ⟨u, h1, h2, h3⟩ := Classical.choose_spec c
  exact pd_glob hg h1 h2 h3 hd
/-- a written tuple of two ints -/
theorem cg_two {K : PySem.W.Frag} {mg : Str → Option Value} {x : Str} {a : Addr} {i j : Int} {t u : Tok} {n : Nat} {dd : Option Addr} {sl : Array (Option Value)} (hm : mg x = some (.ref a)) (l : K.lookup a = some ⟨.type "tuple", dd, .seq #[.int i t, .int j u] n, sl⟩) : CG K mg x (fr (i, j)) := by
  refine ⟨.ref a, .ref a, hm, rfl, mk_tup (xs := [.int i, .int j]) (.inr ⟨_, _, _, l, rfl, rfl, by show 2 ≤ sizeLine; decide, ?_⟩) (reps_cons mk_int (reps_cons mk_int reps_nil))⟩
  exact .cons ⟨t, rfl⟩ (.cons ⟨u, rfl⟩ .nil)
def cv_NOUGHT : D := fr (0, 1)
def cv_ONE : D := fr (1, 1)
/-! ### moments as they are drawn -/
def Mom.Pr : Mom → Prop
  | .q _ => True
  | .r a b c _ => Int.gcd (Int.gcd a b : Nat) c = 1 ∧ 0 < b * b - 4 * a * c ∧ ∀ z : Int, z * z ≠ b * b - 4 * a * c
theorem Mom.Ok.mono {m n : Nat} {q : Mom} (h : q.Ok m) (l : m ≤ n) : q.Ok n := by
  cases q with
  | q f => exact ⟨h.1, h.2.mono l⟩
  | r a b c s => exact ⟨h.1, h.2.1.mono l, h.2.2.1.mono l, h.2.2.2.1.mono l, h.2.2.2.2⟩
/-- a def that draws a moment from a purse, with at most k fillings -/
def drawM (n k : Nat) : DSp := fun ds μ P _ => ∃ p m, ds = [.ref p] ∧ Purse μ p m ∧ m + k ≤ 90000 ∧ ∀ (q : Mom) ds', q.Ok n → q.Pr → Purse (put μ p (.lst ds')) p (m + k) → P q.d (put μ p (.lst ds'))
theorem Bd.two {n : Nat} {i : Int} (h : -(2 ^ n : Int) < i) (g : i < 2 ^ n) : Bd n i := by
  unfold Bd
  have e : ((i.natAbs : Nat) : Int) < ((2 ^ n : Nat) : Int) := by
    rw [Int.natCast_pow]
    show (i.natAbs : Int) < 2 ^ n
    omega
  exact Int.ofNat_lt.mp e
theorem low_ok {n : Nat} {a b : Int} (h : b ≠ 0) (ha : Bd n a) (hb : Bd n b) : (Mom.q (low a b)).Ok n := ⟨low_can h, low_fb h ha hb⟩
theorem sq_le {x y : Int} (h0 : 0 ≤ x) (h : x ≤ y) : x * x ≤ y * y := Int.mul_le_mul h h h0 (by omega)
theorem isq_unique {n r s : Int} (r0 : 0 ≤ r) (s0 : 0 ≤ s) (r1 : r * r ≤ n) (r2 : n < (r + 1) * (r + 1)) (s1 : s * s ≤ n) (s2 : n < (s + 1) * (s + 1)) : r = s := by
  rcases Int.lt_trichotomy r s with h | h | h
  · have := sq_le (x := r + 1) (y := s) (by omega) (by omega); omega
  · exact h
  · have := sq_le (x := s + 1) (y := r) (by omega) (by omega); omega
theorem nonsq {n r : Int} (r0 : 0 ≤ r) (r1 : r * r ≤ n) (r2 : n < (r + 1) * (r + 1)) (h : ¬ r * r = n) : ∀ z : Int, z * z ≠ n := by
  intro z hz
  have e : (z.natAbs : Int) * z.natAbs = z * z := Int.natAbs_mul_self' z
  rcases Int.lt_trichotomy (z.natAbs : Int) r with g | g | g
  · have := sq_le (x := (z.natAbs : Int)) (y := r) (by omega) (by omega); omega
  · rw [g] at e; omega
  · have := sq_le (x := r + 1) (y := (z.natAbs : Int)) (by omega) (by omega); omega
theorem prim_ok {n : Nat} {a b c s : Int} (ha : 0 < a) (ba : Bd n a) (bb : Bd n b) (bc : Bd n c) (hs : s = 0 ∨ s = 1) (hd : 0 < b * b - 4 * a * c) (hq : ∀ z : Int, z * z ≠ b * b - 4 * a * c) :
    (Mom.r (a.fdiv (Int.gcd (Int.gcd a b : Nat) c : Nat)) (b.fdiv (Int.gcd (Int.gcd a b : Nat) c : Nat)) (c.fdiv (Int.gcd (Int.gcd a b : Nat) c : Nat)) s).Ok n ∧
    (Mom.r (a.fdiv (Int.gcd (Int.gcd a b : Nat) c : Nat)) (b.fdiv (Int.gcd (Int.gcd a b : Nat) c : Nat)) (c.fdiv (Int.gcd (Int.gcd a b : Nat) c : Nat)) s).Pr := by
  generalize hg : Int.gcd (Int.gcd a b : Nat) c = g
  have d1 : (g : Int) ∣ ((Int.gcd a b : Nat) : Int) := hg ▸ Int.gcd_dvd_left _ _
  have d2 : (g : Int) ∣ c := hg ▸ Int.gcd_dvd_right _ _
  have da : (g : Int) ∣ a := Int.dvd_trans d1 (Int.gcd_dvd_left a b)
  have db : (g : Int) ∣ b := Int.dvd_trans d1 (Int.gcd_dvd_right a b)
  have g0 : 0 < (g : Int) := by
    rcases Nat.eq_zero_or_pos g with z | z
    · subst z; exact absurd (Int.zero_dvd.mp da) (by omega)
    · omega
  have ea := Int.fdiv_mul_cancel da
  have eb := Int.fdiv_mul_cancel db
  have ec := Int.fdiv_mul_cancel d2
  generalize a.fdiv g = x at *
  generalize b.fdiv g = y at *
  generalize c.fdiv g = z at *
  have le : ∀ u v : Int, u * g = v → u.natAbs ≤ v.natAbs := by
    intro u v e
    rw [← e, Int.natAbs_mul]
    exact Nat.le_mul_of_pos_right _ (by omega)
  have hx : 0 < x := by
    apply Int.lt_of_not_ge
    intro w
    have := Int.mul_le_mul_of_nonneg_right w (Int.le_of_lt g0)
    omega
  have ed : b * b - 4 * a * c = (y * y - 4 * x * z) * (g * g) := by rw [← ea, ← eb, ← ec]; grind
  refine ⟨⟨hx, ba.le (le _ _ ea), bb.le (le _ _ eb), bc.le (le _ _ ec), hs⟩, ?_, ?_, fun w e => ?_⟩
  · have e1 : Int.gcd (Int.gcd a b : Nat) c = Int.gcd (Int.gcd x y : Nat) z * g := by
      rw [← ea, ← eb, ← ec]
      rw [Int.gcd_mul_right]
      have : (((Int.gcd x y * Int.natAbs g : Nat) : Nat) : Int) = (Int.gcd x y : Nat) * (g : Int) := by simp
      rw [this, Int.gcd_mul_right]
      simp
    rw [hg] at e1
    have : 1 * g = Int.gcd (Int.gcd x y : Nat) z * g := by omega
    exact (Nat.eq_of_mul_eq_mul_right (by omega) this).symm
  · apply Int.lt_of_not_ge
    intro w
    have := Int.mul_le_mul_of_nonneg_right w (Int.le_of_lt (Int.mul_pos g0 g0))
    omega
  · refine hq (w * g) ?_
    rw [ed, ← e]
    grind
theorem if_any {c : Prop} {_ : Decidable c} {A B : Prop} (ha : c → A) (hb : ¬ c → B) : if c then A else B := by
  by_cases h : c
  · rw [if_pos h]; exact ha h
  · rw [if_neg h]; exact hb h
theorem ite01 (c : Prop) {_ : Decidable c} : ∃ e : Int, (if c then (1 : Int) else 0) = e ∧ (e = 0 ∨ e = 1) := by
  by_cases h : c <;> simp [h]
theorem w_any {c : Prop} {i : Decidable c} {d : Prop} {j : Decidable d} {Q : Int → Prop} (h : ∀ e : Int, e = 0 ∨ e = 1 → Q e) : if c then Q (if d then 1 else 0) else Q 0 := by
  by_cases hc : c
  · rw [if_pos hc]
    by_cases hd : d
    · rw [if_pos hd]; exact h 1 (.inr rfl)
    · rw [if_neg hd]; exact h 0 (.inl rfl)
  · rw [if_neg hc]; exact h 0 (.inl rfl)
end
section
/-! ### a list's part stored: xs[:c] = ys, xs[:] = ys -/
section
variable {prog : Program} {w : World} {A : Around} {E : Value → Shared → Prop} {s : Shared}
theorem cut_store {l b sl : Addr} {items new : Array Value} {n n2 : Nat} {vl vu : Value} {lo hi : Option Int} {a c : Nat} {Q : Unit → Shared → Prop}
    (e : s.heap.get? l = some { cls := .type "list", data := .seq items n }) (e2 : s.heap.get? b = some { cls := .type "list", data := .seq new n2 }) (hne : l ≠ b)
    (hs : s.heap.IsSliceOf sl vl vu .none) (pl : IsPart vl lo) (pu : IsPart vu hi) (hbn : sliceBounds lo hi none items.size = ((a : Int), (c : Int), 1)) (hac : a ≤ c) (hc : c ≤ items.size)
    (hsz : items.size + new.size ≤ sizeLine) (h : Q () { s with heap := s.heap.update l (Obj.mapSeq fun xs => xs.extract 0 a ++ new ++ xs.extract c xs.size) }) :
    wpAny (model prog w) A (setItem (.ref l) (.ref sl) (.ref b)) Q E s := by
  have hl : s.heap.IsList l items := PySem.IsL.isList e
  have hb : s.heap.IsList b new := PySem.IsL.isList e2
  obtain ⟨os, hos, hcs, hds⟩ := id hs
  have hTs : s.TypeIs (.ref sl) "slice" := ⟨os, hos, hcs⟩
  have hst : ¬ ((rawPart none == rawInt 0) = true) := Bool.false_ne_true
  have hso : Builtin.List.listSameRef (.ref l) (.ref b) = false := by unfold Builtin.List.listSameRef; exact beq_eq_false_iff_ne.mpr hne
  have hmx : (max (a : Int) (c : Int)).toNat = c := by omega
  have hz' : ((fun xs : Array Value => xs.extract 0 a ++ new ++ xs.extract c xs.size) items).size ≤ sizeLine + 1 := by simp only [Array.size_append, Array.size_extract]; omega
  unfold setItem; (try with_reducible refine wpAny_holding ?_)
  (first | refine wpAny_bind (wpAny_pure ?_) | skip); refine wpAny_bind (wpAny_sequenceKey hl.typeIs (by decide) ?_)
  refine wpAny_bind (wpAny_callSpecial?_slot (name := Str.ofString "__setitem__") hl.typeIs PySem.F.slot_list_setitem (wpAny_call_entry PySem.F.slot_list_setitem hl.typeIs PySem.F.entry_list_setitem ?_ (PySem.args_list_setitem _ _ _)))
  show wpAny _ _ (Builtin.List.listSubscript? (.ref sl) >>= _) _ _ s; refine wpAny_bind ?_; unfold Builtin.List.listSubscript?
  refine wpAny_bind (wpAny_specialOf hTs slice_no_index ?_); simp only [Option.isNone_none, if_true]; refine wpAny_pure ?_
  show wpAny _ _ (typeOf (.ref sl) >>= _) _ _ s; refine wpAny_bind (wpAny_typeOf hTs ?_)
  first | rw [if_neg (by decide)] | refine PySem.W.KFB.if_not (by decide) ?_
  rw [listSliceParts_eq]; refine wpAny_bind (wpAny_bind (wpAny_field hos hds (x := .none) rfl (wpAny_bind (wpAny_listPart .none ?_))))
  rw [if_neg hst]; refine wpAny_bind (wpAny_field hos hds (x := vl) rfl (wpAny_bind (wpAny_listPart pl ?_)))
  refine wpAny_bind (wpAny_field hos hds (x := vu) rfl (wpAny_bind (wpAny_listPart pu (wpAny_pure ?_)))); (first | simp only [hso, Bool.false_eq_true, if_false] | refine PySem.W.KFB.if_not hso ?_)
  refine wpAny_bind (m := Builtin.List.listAllItems (.ref b) "must assign iterable to extended slice") ?_; unfold Builtin.List.listAllItems; refine wpAny_bind (wpAny_typeOf hb.typeIs ?_)
  first | refine PySem.W.KFB.if_so (by decide) ?_ | rw [if_pos (by decide)] | simp only [beq_self_eq_true, Bool.true_or, if_true]
  unfold Builtin.List.listItems; refine wpAny_bind (wpAny_seqItems e2 rfl (wpAny_pure ?_)); refine wpAny_bind (wpAny_bind (wpAny_seqItems e rfl (wpAny_pure ?_)))
  refine wpAny_bind (wpAny_of_eq ((sliceIndices_raw lo hi none items.size (by simp)).trans (congrArg (pure : Int × Int × Int → Sem (Int × Int × Int)) hbn)) ?_)
  show wpAny _ _ (if ((1 : Int) == 1) = true then _ else _) _ _ s; rw [if_pos (by decide)]; refine wpAny_bind (wpAny_rule ?_)
  first | simp only [notLongL hsz, Bool.false_eq_true, if_false] | refine PySem.W.KFB.if_not (notLongL hsz) ?_
  (first | refine wpAny_bind (wpAny_pure ?_) | skip); show wpAny _ _ (updateSeq l (fun xs => xs.extract 0 ((a : Int)).toNat ++ new ++ xs.extract (max (a : Int) (c : Int)).toNat xs.size) >>= _) _ _ s
  rw [hmx, Int.toNat_natCast]; refine wpAny_bind (wpAny_updateSeq (hz := Nat.le_trans (Nat.le_add_right _ _) hsz) (_hz' := hz') e rfl ?_); refine wpAny_bind (wpAny_letGo ?_)
  first | exact wpAny_bind (wpAny_pure (wpAny_pure ⟨.none, rfl, wpAny_pure h⟩)) | exact wpAny_pure ⟨.none, rfl, wpAny_pure h⟩
end
section
variable {X : Cx}
theorem bounds_0c {c : Int} {n : Nat} (h0 : 0 ≤ c) (hc : c ≤ n) : sliceBounds none (some c) none n = (((0 : Nat) : Int), ((c.toNat : Nat) : Int), 1) := by
  have h2 : ¬ (c < 0) := by omega
  simp only [sliceBounds, Option.getD_none, h2, if_false, show (1 : Int) > 0 by decide, if_true]
  have h3 : min c (n : Int) = c := by omega
  simp [Int.toNat_of_nonneg h0]
  omega
theorem bounds_all {n : Nat} : sliceBounds none none none n = (((0 : Nat) : Int), (n : Int), 1) := by simp [sliceBounds]
theorem set_cut {pins : List (Addr × Obj)} {s : Shared} {σ : L2.St} {H : Hp} {l b sl : Addr} {xs ys : List V} {a c : Nat} {vl vu : Value} {lo hi : Option Int} {Q : Unit → Shared → Prop} (I : Inv X pins σ H s)
    (hH : H l = some (.lst xs)) (hB : H b = some (.lst ys)) (hne : l ≠ b) (hs : s.heap.IsSliceOf sl vl vu .none) (pl : IsPart vl lo) (pu : IsPart vu hi) (hbn : sliceBounds lo hi none xs.length = ((a : Int), (c : Int), 1)) (hac : a ≤ c) (hc : c ≤ xs.length)
    (hz : xs.length + ys.length ≤ sizeLine) (h : ∀ s', Inv X pins σ (upd H l (.lst (xs.take a ++ ys ++ xs.drop c))) s' → Q () s') :
    wpAny (model X.prog X.w) X.A (setItem (.ref l) (.ref sl) (.ref b)) Q X.xe s := by
  obtain ⟨z, its, n, r, hl, e⟩ := I.lstM hH
  obtain ⟨z2, its2, n2, r2, hl2, e2⟩ := I.lstM hB
  refine cut_store (a := a) (c := c) e e2 hne hs pl pu (by rw [List.size_toArray, ← hl]; exact hbn) hac (by rw [List.size_toArray]; omega) (by rw [List.size_toArray, List.size_toArray]; omega) (h _ ?_)
  refine I.lset (its' := its.take a ++ its2 ++ its.drop c) (t' := s.toks) hH e ?_ (((r.take a).append r2).append (r.drop c)) ?_
  · exact splice_eq its its2 a c
  · rw [List.length_append, List.length_append, List.length_take, List.length_drop]
    omega
def gCut (to : TE) (tl th : TO) : TG := fun y σ H Q => to σ H fun x H1 => tl σ H1 fun lo H2 => th σ H2 fun hi H3 => ∃ l b xs ys a c, x = .ref l ∧ y = .ref b ∧ H3 l = some (.lst xs) ∧ H3 b = some (.lst ys) ∧ l ≠ b ∧
  sliceBounds lo hi none xs.length = (((a : Nat) : Int), ((c : Nat) : Int), 1) ∧ a ≤ c ∧ c ≤ xs.length ∧ xs.length + ys.length ≤ sizeLine ∧ Q σ (upd H3 l (.lst (xs.take a ++ ys ++ xs.drop c)))
theorem pg_cut {o : Expr} {lo hi : Option Expr} {to : TE} {tl th : TO} {pos p2 : Pos} (ho : PE X o to) (hl : PO X lo tl) (hu : PO X hi th)
    (ha : ∀ v, assign (.Subscript o (.Slice lo hi none p2) pos) X.env v = (do
      let ov ← holding [v] (eval o X.env)
      let iv ← holding [v, ov] (eval (.Slice lo hi none p2) X.env)
      standAt pos
      holding [v, ov, iv] (setItem ov iv v)
      release [iv, v, ov] []) := by intro _; rfl) : PG X (.Subscript o (.Slice lo hi none p2) pos) (gCut to tl th) := by
  refine ⟨fun pins s σ H v u Q I r h => ?_⟩
  rw [ha]; refine wpAny_bind (wpAny_holding (thn (ho.run pins s σ H _ I h) fun ov s1 ⟨x, H1, I1, r1, q1⟩ => ?_))
  refine wpAny_bind (wpAny_holding (wpAny_Slice (thn (hl.run pins s1 σ H1 _ I1 q1) fun vl s2 ⟨lo', H2, I2, pl, q2⟩ => thn (hu.run pins s2 σ H2 _ I2 q2) fun vu s3 ⟨hi', H3, I3, pu, q3⟩ => ?_)))
  rw [evalPart_none]; refine wpAny_pure ?_
  have I4 : Inv X pins σ H3 { s3 with heap := s3.heap.push { cls := .type "slice", data := .fields #[vl, vu, .none] } } := I3.kept (t' := s3.toks) fun b ob q => Heap.get?_push_of_some _ q
  obtain ⟨l, b, xs, ys, a, c, rfl, rfl, h1, h2, h3, h4, h5, h6, h7, q⟩ := q3
  cases r1; cases r
  refine wpAny_bind (wpAny_standAt (wpAny_bind (wpAny_holding (set_cut I4 h1 h2 h3 (Heap.IsSliceOf.new ..) pl pu h4 h5 h6 h7 fun s4 I5 => ?_))))
  exact wpAny_release ⟨σ, _, I5, q⟩
end
/-- a part of our own list stored: a frozen list's items in place of the first c (or of all) -/
def jCutM (o : D) (lo hi : Option Int) (d : D) (ρ : RE) (μ : Mu) (P : RE → Mu → Prop) : Prop := ∃ p ds es c, o = .ref p ∧ d = .lst es ∧ μ p = some (.lst ds) ∧ lo = none ∧ (hi = some (c : Int) ∧ 0 ≤ c ∧ c ≤ ds.length ∨ hi = none ∧ c = ds.length) ∧ ds.length + es.length ≤ 1000 ∧ P ρ (put μ p (.lst (es ++ ds.drop c.toNat)))
def jCut (f : DE) (l h : DO) (d : D) (ρ : RE) (μ : Mu) (P : RE → Mu → Prop) : Prop := f ρ μ fun o μ1 => l ρ μ1 fun lo μ2 => h ρ μ2 fun hi μ3 => jCutM o lo hi d ρ μ3 P
theorem gd_cut {X : Cx} {W : WX} {PX : DX} {o : Expr} {lo hi : Option Expr} {to : TE} {tl th : TO} {f : DE} {l h : DO} {pos p2 : Pos} (ho : PD X W PX o to f) (hl : PDO X W PX lo tl l) (hh : PDO X W PX hi th h) : GD X W PX (.Subscript o (.Slice lo hi none p2) pos) (gCut to tl th) (jCut f l h) := by
  refine ⟨pg_cut ho.pe hl.pe hh.pe, fun T wl σ F H ρ μ d v P Q R rv hf k => ?_⟩
  refine ho.he T wl σ F H ρ μ _ _ R hf fun x μ1 u F1 H1 g1 c1 r1 q1 => ?_
  refine hl.he T wl σ F1 H1 ρ μ1 _ _ (R.go g1.ex c1) q1 fun o1 μ2 F2 H2 g2 c2 q2 => ?_
  refine hh.he T wl σ F2 H2 ρ μ2 _ _ (R.go (g1.trans g2).ex c2) q2 fun o2 μ3 F3 H3 g3 c3 q3 => ?_
  have g13 := (g1.trans g2).trans g3
  obtain ⟨p, ds, es, c, rfl, rfl, hp, rfl, hc, hz, q⟩ := q3
  rw [rep_ref (r1.mono (g2.trans g3).ex)]
  obtain ⟨b, ys, rfl, h1, h2⟩ := rep_lst (rv.mono g13.ex)
  obtain ⟨fp, ws, h3, h4⟩ := c3.cell hp
  have e1 := h2.length
  have e2 := h4.length
  have hne : p ≠ b := fun e => by rw [← e, fp] at h1; cases h1
  obtain ⟨c4, g4⟩ := c3.mut (vs := ys ++ ws.drop c.toNat) hp (h2.app (h4.drop _))
  refine ⟨p, b, ws, ys, 0, c.toNat, rfl, rfl, h3, c3.sub _ _ h1, hne, ?_, Nat.zero_le _, by omega, by rw [sizeLine_eq]; omega, ?_⟩
  · rcases hc with ⟨rfl, h0, h5⟩ | ⟨rfl, rfl⟩
    · exact bounds_0c h0 (by omega)
    · rw [bounds_all, Int.toNat_natCast, e2]
  · exact k _ _ _ _ _ (g13.trans g4) (R.go (g13.trans g4).ex c4) q
theorem r_jcut {f : DE} {l h : DO} {d : D} {ρ : RE} {μ : Mu} {P : RE → Mu → Prop} : jCut f l h d ρ μ P = f ρ μ fun o μ1 => l ρ μ1 fun lo μ2 => h ρ μ2 fun hi μ3 => jCutM o lo hi d ρ μ3 P := rfl
theorem r_jcutP {A : Addr} {ds es : List D} {c : Int} {ρ : RE} {μ : Mu} {P : RE → Mu → Prop} : jCutM (.ref A) none (some c) (.lst es) ρ (put μ A (.lst ds)) P = (0 ≤ c ∧ c ≤ ds.length ∧ ds.length + es.length ≤ 1000 ∧ P ρ (put μ A (.lst (es ++ ds.drop c.toNat)))) := by
  unfold jCutM
  apply propext
  constructor
  · rintro ⟨p, ds', es', c', e1, e2, e3, _, hc, hz, h⟩
    cases e1
    cases e2
    rw [put_same] at e3
    cases e3
    rcases hc with ⟨e, h0, h1⟩ | ⟨e, _⟩
    · cases e
      rw [put_put] at h
      exact ⟨h0, h1, hz, h⟩
    · cases e
  · rintro ⟨h0, h1, hz, h⟩
    exact ⟨A, ds, es, c, rfl, rfl, put_same, rfl, .inl ⟨rfl, h0, h1⟩, hz, by rw [put_put]; exact h⟩
theorem r_jcutA {A : Addr} {ds es : List D} {ρ : RE} {μ : Mu} {P : RE → Mu → Prop} : jCutM (.ref A) none none (.lst es) ρ (put μ A (.lst ds)) P = (ds.length + es.length ≤ 1000 ∧ P ρ (put μ A (.lst es))) := by
  unfold jCutM
  apply propext
  constructor
  · rintro ⟨p, ds', es', c', e1, e2, e3, _, hc, hz, h⟩
    cases e1
    cases e2
    rw [put_same] at e3
    cases e3
    rcases hc with ⟨e, h0, h1⟩ | ⟨_, rfl⟩
    · cases e
    · rw [put_put, Int.toNat_natCast, List.drop_length, List.append_nil] at h
      exact ⟨hz, h⟩
  · rintro ⟨hz, h⟩
    exact ⟨A, ds, es, ds.length, rfl, rfl, put_same, rfl, .inr ⟨rfl, rfl⟩, hz, by rw [put_put, Int.toNat_natCast, List.drop_length, List.append_nil]; exact h⟩
end
section
/-! ### x in a tuple or list, data of any depth -/
def rInB (K : PySem.W.Frag) (neg : Bool) : R2 := fun x y H Q => ∃ d ds, Dp K H x d ∧ (Dp K H y (.list ds) ∨ Dp K H y (.tuple ds)) ∧ SeqAt.shaped d = true ∧ PyData.canLayAll0 ds = true ∧ Q (.bl (neg ^^ ds.any fun z => PyData.eqv z d)) H
section
variable {X : Cx}
theorem in_room {j : Nat} {A : Around} {xs : List PyData} {d : PyData} (hr : Room j A) (hd : SeqAt.shaped d = true) : A.units + 1 + min (PyData.depthAll xs) d.depth < cLine := by
  have h1 := SeqAt.depth_of_shaped hd
  have h2 : min (PyData.depthAll xs) d.depth ≤ d.depth := Nat.min_le_right _ _
  have := hr.un
  omega
theorem op_inB {j : Nat} (hr : Room j X.A) : OpR X (compareOp .In) (rInB X.K false) := by
  intro pins s σ H x y v u Q I rx ry h
  obtain ⟨d, ds, hd, he, sd, se, q⟩ := h
  obtain ⟨as, r1⟩ := Dp.reads I d x v hd rx
  rw [Bool.false_xor] at q
  rcases he with he | he
  · obtain ⟨bs, r2⟩ := Dp.reads I (.list ds) y u he ry
    exact SeqAt.in_list_reads r2 r1 se (SeqAt.canLay_of_shaped sd) (in_room hr sd) ⟨.bl _, H, I, rfl, q⟩
  · obtain ⟨bs, r2⟩ := Dp.reads I (.tuple ds) y u he ry
    exact SeqAt.in_tuple_reads r2 r1 se (SeqAt.canLay_of_shaped sd) (in_room hr sd) ⟨.bl _, H, I, rfl, q⟩
theorem op_notInB {j : Nat} (hr : Room j X.A) : OpR X (compareOp .NotIn) (rInB X.K true) := by
  intro pins s σ H x y v u Q I rx ry h
  obtain ⟨d, ds, hd, he, sd, se, q⟩ := h
  obtain ⟨as, r1⟩ := Dp.reads I d x v hd rx
  rw [Bool.true_xor] at q
  rcases he with he | he
  · obtain ⟨bs, r2⟩ := Dp.reads I (.list ds) y u he ry
    exact SeqAt.notIn_list_reads r2 r1 se (SeqAt.canLay_of_shaped sd) (in_room hr sd) ⟨.bl _, H, I, rfl, q⟩
  · obtain ⟨bs, r2⟩ := Dp.reads I (.tuple ds) y u he ry
    exact SeqAt.notIn_tuple_reads r2 r1 se (SeqAt.canLay_of_shaped sd) (in_room hr sd) ⟨.bl _, H, I, rfl, q⟩
end
def qInB (neg : Bool) (x y : D) (μ : Mu) (P : DK) : Prop := ∃ d ds, pyM μ x = some d ∧ (pyM μ y = some (.list ds) ∨ pyM μ y = some (.tuple ds)) ∧ SeqAt.shaped d = true ∧ PyData.canLayAll0 ds = true ∧ P (.bl (neg ^^ ds.any fun z => PyData.eqv z d)) μ
theorem od_inB {K : PySem.W.Frag} {neg : Bool} : OD K (rInB K neg) (qInB neg) := by
  intro T F H μ x y v u P Q c r1 r2 q k
  obtain ⟨p, ds, e1, e2, s1, s2, q⟩ := q
  refine ⟨p, ds, dpM_of c r1 e1, ?_, s1, s2, k _ _ _ _ _ .refl c mk_bl q⟩
  rcases e2 with e2 | e2
  · exact .inl (dpM_of c r2 e2)
  · exact .inr (dpM_of c r2 e2)
section
variable {X : Cx} {W : WX} {PX : DX} {a b : Expr} {ta tb : TE} {f g : DE} {pos : Pos} {j : Nat}
theorem pd_in (hr : Room j X.A) (ha : PD X W PX a ta f) (hb : PD X W PX b tb g) (hm : behindInMarks .In b = false := by rfl) : PD X W PX (.Compare a [.In] [b] pos) (tOp (rInB X.K false) ta tb) (dOp (qInB false) f g) := pd_cmp (op_inB hr) od_inB ha hb hm
theorem pd_notin (hr : Room j X.A) (ha : PD X W PX a ta f) (hb : PD X W PX b tb g) (hm : behindInMarks .NotIn b = false := by rfl) : PD X W PX (.Compare a [.NotIn] [b] pos) (tOp (rInB X.K true) ta tb) (dOp (qInB true) f g) := pd_cmp (op_notInB hr) od_inB ha hb hm
theorem pt_in (hr : Room j X.A) (ha : PD X W PX a ta f) (hb : PD X W PX b tb g) (hm : behindInMarks .In b = false := by rfl) : PDT X W PX (.Compare a [.In] [b] pos) (tTest (tOp (rInB X.K false) ta tb)) (dB (dOp (qInB false) f g)) := pt_c (op_inB hr) od_inB ha hb hm
theorem pt_notin (hr : Room j X.A) (ha : PD X W PX a ta f) (hb : PD X W PX b tb g) (hm : behindInMarks .NotIn b = false := by rfl) : PDT X W PX (.Compare a [.NotIn] [b] pos) (tTest (tOp (rInB X.K true) ta tb)) (dB (dOp (qInB true) f g)) := pt_c (op_notInB hr) od_inB ha hb hm
end
theorem py_ints2 {a b : Int} : py (.tup [.int a, .int b]) = some (.tuple [.int a, .int b]) := by simp [py, pys]
theorem r_in2 {a b c : Int} {μ : Mu} {P : DK} : qInB false (.int a) (.tup [.int b, .int c]) μ P = P (.bl (decide (a = b ∨ a = c))) μ := by
  have e2 : pyM μ (.tup [.int b, .int c]) = some (.tuple [.int b, .int c]) := by unfold pyM; exact py_ints2
  have s2 : PyData.canLayAll0 [.int b, .int c] = true := by simp [PyData.canLayAll0, PyData.canLay0]
  have e3 : (false ^^ [PyData.int b, .int c].any fun z => PyData.eqv z (.int a)) = decide (a = b ∨ a = c) := by
    simp only [List.any_cons, List.any_nil, eqv_int, Bool.or_false, Bool.false_xor]
    by_cases h1 : a = b
    · subst h1; simp
    · by_cases h2 : a = c
      · subst h2; simp
      · have h3 : ¬ b = a := fun e => h1 e.symm
        have h4 : ¬ c = a := fun e => h2 e.symm
        simp [h1, h2, h3, h4]
  unfold qInB
  apply propext
  constructor
  · rintro ⟨d, ds, h1, h2, _, _, h⟩
    rw [pyM_int] at h1
    cases h1
    rcases h2 with h2 | h2
    · rw [e2] at h2; cases h2
    · rw [e2] at h2
      cases h2
      rwa [e3] at h
  · intro h
    exact ⟨_, _, pyM_int, .inr e2, shaped_int, s2, by rw [e3]; exact h⟩
/-- a def that draws a fraction -/
def drawF (n k : Nat) : DSp := fun ds μ P _ => ∃ p m, ds = [.ref p] ∧ Purse μ p m ∧ m + k ≤ 90000 ∧ ∀ (q : Int × Int) ds', Fr q → FB n q → Purse (put μ p (.lst ds')) p (m + k) → P (fr q) (put μ p (.lst ds'))
theorem put3 {μ : Mu} {p c : Addr} {a b x : Cell} (h : c ≠ p) : put (put (put μ p a) c x) p b = put (put μ p b) c x := by
  funext z
  unfold put
  by_cases h1 : z = p
  · subst h1
    simp [Ne.symm h]
  · simp [h1]
theorem Purse.over {μ : Mu} {p c : Addr} {x : Cell} {m : Nat} (h : c ≠ p) (u : Purse μ p m) : Purse (EP.put μ c x) p m := by
  obtain ⟨a, b, s, h1, r⟩ := u
  exact ⟨a, b, s, by rw [put_ne (Ne.symm h)]; exact h1, r⟩
theorem fresh_ne {μ : Mu} {p c : Addr} {a : Cell} (h : put μ p a c = none) : c ≠ p := fun e => by rw [e, put_same] at h; cases h
/-- a def called within a comprehension -/
theorem pd_callB {X : Cx} {W : WX} {x : Str} {p pos : Pos} {ps : List Str} {k j : Nat} {sp : DSp} {e : Expr} {es : List Expr} {tas : TA} {fas : DA} {scope : Scope} {s : Shared} {H : Hp} {C : Addr} {cl : List (Str × Addr)} {fp : List Addr}
    (tk : Takes X W) (D : Df X.prog X.w X.K X.mg X.base x ps k sp) (hr : Room j X.A) (ha : PDA (X.blk s H scope (compEnvC scope cl C X.env) fp) W0 PX0 (e :: es) tas fas) (hk : k ≤ j := by decide)
    (hg : Gl (X.blk s H scope (compEnvC scope cl C X.env) fp) x := by rfl) (hdb : (x == ("__debug__" : Str)) = false := by decide)
    (he : starEach (e :: es) (X.blk s H scope (compEnvC scope cl C X.env) fp).env = (false, eval e (X.blk s H scope (compEnvC scope cl C X.env) fp).env) :: starEach es (X.blk s H scope (compEnvC scope cl C X.env) fp).env := by rfl)
    (hpl : (backTo pos (starEach es (X.blk s H scope (compEnvC scope cl C X.env) fp).env)).any (·.1) = false := by rfl) :
    PD (X.blk s H scope (compEnvC scope cl C X.env) fp) W0 PX0 (.Call (.Name x p) (e :: es) [] pos) (tCallS (spD X.K sp) (WE W0) tas) (dCall sp fas PX0) :=
  pd_call (X := X.blk s H scope (compEnvC scope cl C X.env) fp) D takes0 hr hg ha hk hdb he hpl
theorem Purse.under {μ : Mu} {p c : Addr} {x : Cell} {m : Nat} (h : c ≠ p) (u : Purse (EP.put μ c x) p m) : Purse μ p m := by
  obtain ⟨a, b, s, h1, r⟩ := u
  rw [put_ne (Ne.symm h)] at h1
  exact ⟨a, b, s, h1, r⟩
theorem Purse.swap {μ : Mu} {p c : Addr} {x y : Cell} {m n : Nat} (h : c ≠ p) (u : Purse (EP.put μ c x) p m) (l : m ≤ n) : Purse (EP.put μ c y) p n := ((u.under h).mono l).over h
end
section
/-! ### an exception caught and kept as a value -/
section
variable {X : Cx} {pins : List (Addr × Obj)} {σ : L2.St} {H : Hp} {s : Shared}
theorem keep_it {a : Addr} {cls : Value} {oe : Obj} {vs : Array Value} (I : Inv X pins σ H s) (e : s.heap.get? a = some oe) (z : Zc cls none oe) (d : oe.data = .fields vs) (na : H a = none) (nL : a ≠ X.env.locals)
    (f0 : X.s_0.heap.get? a = none) (fp : ∀ p ∈ X.pn ++ pins, p.1 ≠ a) (fc : ∀ x c, X.env.cells.lookup x = some c → c ≠ a) : Inv X pins σ (upd H a (ExK cls a)) s := by
  have ne0 : ∀ b o, X.s_0.heap.get? b = some o → b ≠ a := fun b o q w => by rw [w, f0] at q; cases q
  have neS : ∀ b o, H b = some o → b ≠ a := fun b o q w => by rw [w, na] at q; cases q
  refine ⟨I.ok, I.os, I.bare, ⟨I.base.keep, I.base.slot, fun b o q n hx => ?_, I.base.there, fun b xs q => ?_, fun b o u q => ?_, fun b ps q => ?_⟩, I.loc, I.cell, ?_, fun x c q => ?_, fun p hp => ?_, fun b u q => ?_, I.len⟩
  · rw [upd_ne (ne0 b o q)]; exact I.base.free b o q n hx
  · have h1 := I.base.tups b xs q
    rw [upd_ne (neS b _ h1)]; exact h1
  · have h1 := I.base.frzs b o u q
    rw [upd_ne (neS b _ h1)]; exact h1
  · obtain ⟨m, h1⟩ := I.base.tbls b ps q
    exact ⟨m, by rw [upd_ne (neS b _ h1)]; exact h1⟩
  · rw [upd_ne (Ne.symm nL)]; exact I.free
  · rw [upd_ne (fc x c q)]; exact I.freeC x c q
  · obtain ⟨p1, p2, p3⟩ := I.pin p hp
    exact ⟨p1, by rw [upd_ne (fp p hp)]; exact p2, p3⟩
  · by_cases hb : b = a
    · subst hb
      rw [upd_same] at q
      cases q
      exact ⟨⟨oe, vs, e, z, d⟩, ⟨oe, e⟩, fun _ _ ⟨o, v, q, r⟩ k => ⟨o, v, k o q, r⟩⟩
    · rw [upd_ne hb] at q
      exact (I.hok b u q).stay (fun _ _ _ r => r) (fun c r => by rw [upd_ne (neS c _ r)]; exact r) fun c xs r => by rw [upd_ne (neS c _ r)]; exact r
end
/-- what the clause wishes of an exception of the body: it is caught, and kept -/
def wKeep (K : PySem.W.Frag) (c : Value) (i : Nat) (ts : Addr → Value → Option Addr → TS) (D : Ends) : WX := fun cls d σ H => PySem.W.exmOne K cls c = some true ∧ d = none ∧ ∀ a, H a = none →
  ts a cls d { nx := fun σ' H' => D.nx (σ'.set i none) (upd H' a (ExK cls a)), rt := fun v H' => D.rt v (upd H' a (ExK cls a)), bk := fun σ' H' => D.bk (σ'.set i none) (upd H' a (ExK cls a)), ct := fun σ' H' => D.ct (σ'.set i none) (upd H' a (ExK cls a)) } (σ.set i (some (.ref a))) H
section
variable {X : Cx} {x n : Str} {c : Value} {i : Nat} {body suite : List Stmt} {b₀ : Stmt} {np pos pos' : Pos} {tb : WX → TS} {ts : Addr → Value → Option Addr → TS}
theorem ps_keep (hs : X.stack = X.env :: X.outer) (hf : X.env.frame = some X.env.locals) (hN : X.N.Nodup) (hi : X.N[i]? = some n) (hln : X.env.kindOf n = some .local) (hc : Names X x c) (hx : X.ex = [])
    (hb : ∀ (W : WX) (pn : List (Addr × Obj)) (xe : Value → Shared → Prop), Takes (X.tr pn xe) W → PassesOwn (model X.prog X.w) X.A X.env xe → PSs (X.tr pn xe) body (tb W))
    (hsu : ∀ (a : Addr) (oe : Obj) (cls : Value) (d : Option Addr) (pn : List (Addr × Obj)), Zc cls d oe → (∃ vs, oe.data = .fields vs) → PSs (X.suite a ((a, oe) :: pn)) (b₀ :: suite) (ts a cls d)) :
    PS X (.Try body [.ExceptHandler (some (.Name x np)) (some n) (b₀ :: suite) pos'] [] [] pos) (fun D σ H => tb (wKeep X.K c i ts D) D σ H) := by
  refine ⟨fun pins s σ H D I h => ?_⟩
  have ok := I.ok; have hfr : X.A.frames = some (X.env :: X.outer) := by rw [ok.frames, hs]
  have hloc : Loc X.env.scope n := .inl hln
  refine wpAny_Try_except (wpAny_mono ((hb (wKeep X.K c i ts D) (X.pn ++ pins) (fun e s₁ => wpAny (model X.prog X.w) X.A (noteFrame e X.env) (fun _ s₂ => wpAny (model X.prog X.w) X.A (setFlight e none) (fun _ s₃ => wpAny (model X.prog X.w) X.A (handleBy e X.env [.ExceptHandler (some (.Name x np)) (some n) (b₀ :: suite) pos']) (SP X pins D) X.xe s₃) X.xe s₂) X.xe s₁) (fun u s' xx => ?_) PassesOwn.looking).run [] s σ H D (I.toTry _) h) (fun f s1 hsp => ?_) (fun e s1 he => he))
  · obtain ⟨a, B, sI, pins', σ', H', cls, d, rfl, J', nb, up, sky, na, os, ag, hb1, rfl, hyes⟩ := xx
    have J : Inv X pins σ' H' sI := J'.ofTry ok
    have sky' : Sky B (X.env :: X.outer) a (Zc cls none) X.env.locals s'.heap := by rw [← hs]; exact sky
    show wpAny (model X.prog X.w) X.A (noteFrame (.ref a) X.env) _ _ _; refine Sky.land Zc.steady hfr hf sky' fun h3 fl3 up3 => ?_
    have J3 : Inv X pins σ' H' { s' with heap := h3 } := J.landed nb fl3.1 (up.trans up3) os ag; obtain ⟨oe3, vs3, he3, hz3, hd3⟩ := fl3.there
    have nfr : a ∉ frs (X.env :: X.outer) := fun hm => by obtain ⟨_, o', e', hnf⟩ := fl3.2.2.1.mem hm; rw [he3] at e'; cases e'; exact hnf _ hd3
    have nL : a ≠ X.env.locals := fun z => nfr (List.mem_filterMap.mpr ⟨X.env, List.mem_cons_self, by rw [hf, z]⟩)
    have nF : a ∉ X.fs := fun hm => by obtain ⟨e, he, q⟩ := List.mem_filterMap.mp hm; exact nfr (List.mem_filterMap.mpr ⟨e, List.mem_cons_of_mem _ he, q⟩)
    have new : sI.heap.get? a = none := by
      cases q : sI.heap.get? a with
      | none => rfl
      | some o => have := nb a o q (by rw [hs]; exact nfr); rw [fl3.2.1] at this; cases this
    have f0 : X.s_0.heap.get? a = none := by
      cases q : X.s_0.heap.get? a with
      | none => rfl
      | some o => obtain ⟨o', q'⟩ := J.base.there a o q (by rw [hx]; exact fun z => nomatch z); rw [new] at q'; cases q'
    have fp : ∀ p ∈ X.pn ++ pins, p.1 ≠ a := fun p hp z => by have := (J.pin p hp).1; rw [z, new] at this; cases this
    have fc : ∀ x c, X.env.cells.lookup x = some c → c ≠ a := fun x c q z => by obtain ⟨v, o, ho, _⟩ := J.cell x c q; rw [z, new] at ho; cases ho
    have S3 := J3.suite he3 hd3 na nL nF; refine wpAny_handleBy_cons (codeAny_handlers_test ?_) (by intro q; cases q)
    have LT : PySem.W.Looks (model X.prog X.w) h3 (typeOf (.ref a)) cls := fun A Q E s k q => (wpAny_typeOf_ref (k _ _ he3) (by rw [hz3.1]; exact q))
    have LM := PySem.W.exm_one (M := model X.prog X.w) (J3.kIn) LT hb1
    have test : ∀ {Q : Value → Shared → Prop} {E : Value → Shared → Prop}, Q c { s' with heap := h3 } → wpAny (model X.prog X.w) (X.A.mark (some (.ref a))) (eval (.Name x np) X.env) Q E { s' with heap := h3 } := by
      intro Q E q; obtain ⟨hg, hdbg, hm | ⟨hm, hv, hnn⟩⟩ := hc
      · refine ld_glob (X := X.suite a ((a, oe3) :: (X.pn ++ pins))) S3 hg hm q hdbg
      · refine ld_blt (X := X.suite a ((a, oe3) :: (X.pn ++ pins))) S3 hg hm hv q hnn hdbg
    refine test (LM.here (codeAny_handlers_suite_as (HandSPX.lands_againZ fl3 fun h4 fl4 up4 => ?_)))
    have J4 : Inv X pins σ' H' { s' with heap := h4 } := J.landed nb fl4.1 ((up.trans up3).trans up4) os ag; obtain ⟨oe4, vs4, he4, hz4, hd4⟩ := fl4.there
    have S4 := J4.suite he4 hd4 na nL nF
    refine store_ok (X := X.suite a ((a, oe4) :: (X.pn ++ pins))) (v := .ref a) S4 hN hi hloc rfl (fun s5 S5 => (wpAny_mono ((hsu a oe4 cls none (X.pn ++ pins) hz4 ⟨_, hd4⟩).run [] s5 _ H' _ S5 (hyes a na)) (fun f s6 hsp => ?_) (fun _ _ z => False.elim z))) (.inr hln)
    have end_ : ∀ {σ6 : L2.St} {H6 : Hp} {Q : Shared → Prop}, Inv (X.suite a ((a, oe4) :: (X.pn ++ pins))) [] σ6 H6 s6 → (∀ s7, Inv X pins (σ6.set i none) (upd H6 a (ExK cls a)) s7 → Q s7) → wpAny (model X.prog X.w) X.A (do bindName X.env n .none; unbindBehindTheSuite X.env n pos') (fun _ s7 => Q s7) X.xe s6 := by
      intro σ6 H6 Q S6 hq
      refine gone_ok (X := X.suite a ((a, oe4) :: (X.pn ++ pins))) S6 hN hi hln fun s7 S7 => hq s7 ?_
      obtain ⟨p1, p2, _⟩ := S7.pin (a, oe4) (List.mem_append.mpr (.inl List.mem_cons_self))
      exact keep_it (S7.unsuite ok) p1 hz4 hd4 p2 nL f0 fp fc
    cases f with
    | next => obtain ⟨σ6, H6, S6, q6⟩ := hsp; exact end_ S6 fun s7 J7 => ⟨_, _, J7, q6⟩
    | brk => obtain ⟨σ6, H6, S6, q6⟩ := hsp; exact end_ S6 fun s7 J7 => ⟨_, _, J7, q6⟩
    | cont => obtain ⟨σ6, H6, S6, q6⟩ := hsp; exact end_ S6 fun s7 J7 => ⟨_, _, J7, q6⟩
    | ret u => obtain ⟨v6, σ6, H6, S6, r6, q6⟩ := hsp; exact end_ S6 fun s7 J7 => ⟨_, _, _, J7, r6, q6⟩
  · cases f with
    | next => obtain ⟨σ', H', J', q⟩ := hsp; exact wpAny_execs_nil ⟨σ', H', J'.ofTry ok, q⟩
    | brk => obtain ⟨σ', H', J', q⟩ := hsp; exact ⟨σ', H', J'.ofTry ok, q⟩
    | cont => obtain ⟨σ', H', J', q⟩ := hsp; exact ⟨σ', H', J'.ofTry ok, q⟩
    | ret u => obtain ⟨v, σ', H', J', r, q⟩ := hsp; exact ⟨v, σ', H', J'.ofTry ok, r, q⟩
end
section
variable {X : Cx} {W : WX} {PX : DX} {x n y : Str} {c : Value} {i j : Nat} {body : List Stmt} {np ep yp ap pos pos' : Pos} {tb : WX → TS} {u : DX → DS}
/-- try: body, except C as e: y = e (slot i is e's, slot j is y's): the exception stays known -/
def dKeep (K : PySem.W.Frag) (c : Value) (i j : Nat) (u : DX → DS) : DS := fun N ρ μ => u (fun ρ' cls x μ' => x = none ∧ PySem.W.exmOne K cls c = some true ∧ i < ρ'.length ∧ N.nx ((ρ'.set j (some (.exc cls))).set i none) μ') N ρ μ
def sKeep (i j : Nat) : Addr → Value → Option Addr → TS := fun _ _ _ => tAsg (tVar i) (gName j)
theorem rok_keep {K : PySem.W.Frag} {T : Ent} {ρ : RE} {μ : Mu} {σ : L2.St} {F H : Hp} {a : Addr} {cls : Value} (R : ROk K T ρ μ σ F H) (na : H a = none) :
    ROk K T ((ρ.set j (some (.exc cls))).set i none) μ (((σ.set i (some (.ref a))).set j (some (.ref a))).set i none) (upd F a (ExK cls a)) (upd H a (ExK cls a)) ∧ Gr F μ H (upd F a (ExK cls a)) μ (upd H a (ExK cls a)) := by
  obtain ⟨c2, g2⟩ := R.c.frz (o := ExK cls a) na
  refine ⟨⟨c2, by simp [R.len], fun k d e => ?_⟩, g2⟩
  by_cases h1 : k = i
  · subst h1
    by_cases hl : k < ρ.length
    · rw [List.getElem?_set_self (by simpa using hl)] at e; cases e
    · rw [List.getElem?_eq_none (by simpa using hl)] at e; cases e
  · rw [List.getElem?_set_ne (Ne.symm h1)] at e
    rw [List.getElem?_set_ne (Ne.symm h1)]
    by_cases h2 : k = j
    · subst h2
      by_cases hl : k < ρ.length
      · rw [List.getElem?_set_self hl] at e
        cases e
        exact ⟨.ref a, List.getElem?_set_self (by simp; rw [← R.len]; exact hl), mk_exc upd_same⟩
      · rw [List.getElem?_eq_none (by simpa using hl)] at e; cases e
    · rw [List.getElem?_set_ne (Ne.symm h2)] at e
      rw [List.getElem?_set_ne (Ne.symm h2), List.getElem?_set_ne (Ne.symm h1)]
      obtain ⟨v, h3, h4⟩ := R.env k d e
      exact ⟨v, h3, h4.mono g2.ex⟩
theorem sd_tryKeep (i j : Nat) (hs : X.stack = X.env :: X.outer) (hf : X.env.frame = some X.env.locals) (hN : X.N.Nodup) (hx : X.ex = [])
    (hc : Names X x c)
    (hb : ∀ (W : WX) (PX : DX) (pn : List (Addr × Obj)) (xe : Value → Shared → Prop), Takes (X.tr pn xe) W → PassesOwn (model X.prog X.w) X.A X.env xe → SSD (X.tr pn xe) W PX body (tb W) (u PX))
    (hi : X.N[i]? = some n := by rfl) (hln : X.env.kindOf n = some .local := by rfl) (hj : X.N[j]? = some y := by rfl) (hy : Loc X.env.scope y := by exact .inl rfl)
    (hv : Vis X.env.scope n := by exact Or.inl rfl) (hd : (n == ("__debug__" : Str)) = false := by decide) (hcd : (n == ("__classdict__" : Str)) = false := by decide)
    (hsw : swapsWith (.Name n ep) (some (.Name y yp)) ap.line X.env = pure false := by rfl) (hfy : X.fn y = true ∨ X.env.scope.names.lookup y = some .local := by first | exact .inl rfl | exact .inr rfl) :
    SD X W PX (.Try body [.ExceptHandler (some (.Name x np)) (some n) [.Assign [.Name y yp] (.Name n ep) ap] pos'] [] [] pos) (fun D σ H => tb (wKeep X.K c i (sKeep i j) D) D σ H) (dKeep X.K c i j u) := by
  refine ⟨ps_keep hs hf hN hi hln hc hx (fun W' pn xe tk hp => (hb W' (fun _ _ _ _ => False) pn xe tk hp).pe) fun a oe cls d pn _ _ => pss_one (ps_set hN hj hy (pe_var hi hv hd hcd) hsw hfy), ?_⟩
  intro T wl σ F H ρ μ N E R hf' L
  have tk0 : Takes (X.tr [] (fun e s₁ => wpAny (model X.prog X.w) X.A (noteFrame e X.env) (fun _ s₂ => wpAny (model X.prog X.w) X.A (setFlight e none) (fun _ _ => True) (fun _ _ => True) s₂) (fun _ _ => True) s₁)) (wKeep X.K c i (sKeep i j) E) := by
    intro e s' xx
    obtain ⟨a, B, sI, pins', σ', H', cls, d, rfl, J', nb, up, sky, na, os, ag, w⟩ := xx
    have hfr : X.A.frames = some (X.env :: X.outer) := by
      have h1 : X.A.frames = some X.stack := J'.ok.frames
      rw [h1, hs]
    have sky' : Sky B (X.env :: X.outer) a (Zc cls d) X.env.locals s'.heap := by rw [← hs]; exact sky
    exact Sky.land Zc.steady hfr hf sky' fun _ _ _ => trivial
  have q := hb (wKeep X.K c i (sKeep i j) E) (fun ρ' cls x μ' => x = none ∧ PySem.W.exmOne X.K cls c = some true ∧ i < ρ'.length ∧ N.nx ((ρ'.set j (some (.exc cls))).set i none) μ') [] _ tk0 PassesOwn.looking
  have up : ∀ ρ' μ' σ' F' H', ROk X.K ⟨F, μ, H⟩ ρ' μ' σ' F' H' → ROk X.K T ρ' μ' σ' F' H' := fun ρ' μ' σ' F' H' R' => ⟨⟨R.c.gr.trans R'.c.gr, R'.c.sub, R'.c.cel⟩, R'.len, R'.env⟩
  refine q.he ⟨F, μ, H⟩ (fun ρ' μ' σ' F' H' cls dx x R' xr px => ?_) σ F H ρ μ N E ⟨⟨.refl, R.c.sub, R.c.cel⟩, R.len, R.env⟩ hf' ?_
  · obtain ⟨rfl, he, hl, hn⟩ := px
    have hdx : dx = none := by
      cases dx with
      | none => rfl
      | some _ => exact xr.elim
    subst hdx
    refine ⟨he, rfl, fun a na => ?_⟩
    refine ⟨.ref a, List.getElem?_set_self (by rw [← R'.len]; exact hl), ?_⟩
    obtain ⟨R2, g2⟩ := rok_keep (i := i) (j := j) (cls := cls) R' na
    exact L.nx _ _ _ _ _ (R'.c.gr.trans g2) (up _ _ _ _ _ R2) hn
  · exact ⟨fun ρ' μ' σ' F' H' g R' h => L.nx _ _ _ _ _ g (up _ _ _ _ _ R') h, fun d v μ' F' H' g c' r h => L.rt _ _ _ _ _ g ⟨R.c.gr.trans c'.gr, c'.sub, c'.cel⟩ r h,
      fun ρ' μ' σ' F' H' g R' h => L.bk _ _ _ _ _ g (up _ _ _ _ _ R') h, fun ρ' μ' σ' F' H' g R' h => L.ct _ _ _ _ _ g (up _ _ _ _ _ R') h⟩
end
/-! ### isinstance of a kept exception -/
def rIsK (K : PySem.W.Frag) : List V → Hp → VK → Prop := fun xs H Q => ∃ (a D : Addr) (c : V) (cv : Value) (b : Bool), xs = [.ref a, c] ∧ H a = some (ExK (.ref D) a) ∧ ExcC K D ∧ (∀ u, RelV c u → u = cv) ∧ PySem.W.kitOne K (.ref D) cv = some b ∧ Q (.bl b) H
theorem call_isK {X : Cx} : CallR X (.builtin "isinstance") (rIsK X.K) := by
  intro pins s σ H xs us Q I r h
  obtain ⟨a, D, c, cv, b, rfl, hH, C, hcv, e, q⟩ := h
  cases r with
  | cons rx rr =>
    cases rr with
    | cons rt rr =>
      cases rr; cases rx
      have ec := hcv _ rt
      subst ec
      obtain ⟨⟨oe, vs, hget, hz, hv⟩, _⟩ := I.hok a _ hH
      have J : PySem.W.InstAt s.heap a oe D none := by
        obtain ⟨oc, od, oda, osl⟩ := oe
        obtain ⟨h1, h2⟩ := hz
        dsimp only at h1 h2 hv
        subst h1 h2 hv
        exact ⟨hget, rfl, rfl, trivial⟩
      refine PySem.W.kia_one (PySem.W.handS_kitx_exc C.hg C.hk C.hs C.hd C.ha C.hn C.ht C.hm) I.kIn J e (fun z => nomatch z) fun tk => ⟨.bl b, H, I.kept (t' := tk) fun _ _ z => z, rfl, q⟩
def rIsX (K : PySem.W.Frag) : List V → Hp → VK → Prop := fun xs H Q => rIsi K xs H Q ∨ rIsK K xs H Q
theorem call_isX {X : Cx} : CallR X (.builtin "isinstance") (rIsX X.K) := by
  intro pins s σ H xs us Q I r h
  rcases h with h | h
  · exact call_isi pins s σ H xs us Q I r h
  · exact call_isK pins s σ H xs us Q I r h
/-- isinstance by a built-in class of data, by any class of a kept exception -/
def clV : D → Option Value
  | .ref a => some (.ref a)
  | .ty n => some (.type n)
  | _ => none
def qIsx (K : PySem.W.Frag) (xs : List D) (μ : Mu) (P : DK) : Prop := qIsi xs μ P ∨ ∃ (C : Addr) (c : D) (cv : Value) (b : Bool), xs = [.exc (.ref C), c] ∧ clV c = some cv ∧ ExcC K C ∧ PySem.W.kitOne K (.ref C) cv = some b ∧ P (.bl b) μ
theorem oc_isx {K : PySem.W.Frag} : OC K (rIsX K) (qIsx K) := by
  intro T F H μ xs vs P Q c rs q k
  rcases q with q | ⟨C, d, cv, b, rfl, hd, hC, hk, q⟩
  · exact .inl (oc_isi T F H μ xs vs P Q c rs q k)
  · obtain ⟨v, u, rfl, r1, r2⟩ := reps2 rs
    obtain ⟨a, rfl, hF⟩ := rep_exc r1
    refine .inr ⟨a, C, u, cv, b, rfl, c.sub _ _ hF, hC, ?_, hk, k _ _ _ _ _ .refl c mk_bl q⟩
    intro w rw'
    cases d with
    | ref x =>
      rw [rep_ref r2] at rw'
      cases hd
      cases rw'
      rfl
    | ty n =>
      have e : u = .ty n := by unfold Rep at r2; exact r2
      subst e
      cases hd
      cases rw'
      rfl
    | _ => cases hd
theorem pd_isx {X : Cx} {W : WX} {PX : DX} {a b : Expr} {tas : TA} {fas : DA} {p pos : Pos} (hg : Gl X "isinstance") (hm : X.mg "isinstance" = none) (ha : PDA X W PX [a, b] tas fas) (he : starEach [a, b] X.env = (false, eval a X.env) :: starEach [b] X.env := by rfl) (hpl : (backTo pos (starEach [b] X.env)).any (·.1) = false := by rfl) :
    PD X W PX (.Call (.Name "isinstance" p) [a, b] [] pos) (tCB (rIsX X.K) tas) (dCB (qIsx X.K) fas) := pd_blt call_isX oc_isx hg hm (by decide +kernel) ha (he := he) (hpl := hpl)
/-- an own class as a value -/
theorem pd_cls {X : Cx} {W : WX} {PX : DX} {pos : Pos} {x : Str} {C : Addr} (hg : Gl X x) (h : ExcK X.K X.mg x C) (hd : (x == ("__debug__" : Str)) = false := by decide) : PD X W PX (.Name x pos) (tC (.ref C)) (dC (.ref C)) := pd_glob hg h.g rfl mk_ref hd
/-! ### list.index, data of any depth -/
def qIndex (x : D) (xs : List D) (μ : Mu) (P : DK) : Prop := (∃ ds, lstOf μ x = some ds) ∧ ∃ d p ps j z, xs = [d] ∧ pyM μ x = some (.list ps) ∧ pyM μ d = some p ∧ SeqAt.shaped (.list ps) = true ∧ SeqAt.shaped p = true ∧ ps[j]? = some z ∧ PyData.eqv z p = true ∧ (∀ (m : Nat) (z' : PyData), m < j → ps[m]? = some z' → PyData.eqv z' p = false) ∧ P (.int (j : Nat)) μ
theorem om_index {K : PySem.W.Frag} : ∀ T F H μ x xs v vs P Q, COk K T F μ H → Rep K F x v → Reps K F xs vs → qIndex x xs μ P → (∀ d μ' v F' H', Gr F μ H F' μ' H' → COk K T F' μ' H' → Rep K F' d v → P d μ' → Q v H') → rIndexD K v vs H Q := by
  intro T F H μ x xs v vs P Q c r rs q k
  obtain ⟨hl, d, p, ps, j, z, rfl, e1, e2, s1, s2, h1, h2, h3, q⟩ := q
  obtain ⟨u, rfl, r1⟩ := reps1 rs
  obtain ⟨ds, hl⟩ := hl
  obtain ⟨a, ws, rfl, h4, h5⟩ := lst_of c r hl
  exact ⟨a, u, p, ps, j, z, rfl, rfl, dpM_of c r e1, dpM_of c r1 e2, s1, s2, h1, h2, h3, k _ _ _ _ _ .refl c mk_int q⟩
theorem reps_ints {K : PySem.W.Frag} {F : Hp} : ∀ {ns : List Int} {vs : List V}, Reps K F (ns.map D.int) vs → vs = ns.map V.int
  | [], _, h => by rw [List.map_nil] at h; unfold Reps at h; exact h
  | n :: ns, _, h => by
    rw [List.map_cons] at h
    unfold Reps at h
    obtain ⟨v, r, rfl, h1, h2⟩ := h
    rw [rep_int h1, reps_ints h2, List.map_cons]
def qSum (xs : List D) (μ : Mu) (P : DK) : Prop := ∃ (x : D) (ns : List Int), xs = [x] ∧ lstOf μ x = some (ns.map D.int) ∧ P (.int ns.sum) μ
theorem oc_sum {K : PySem.W.Frag} : OC K (rSum K) qSum := by
  intro T F H μ xs vs P Q c rs q k
  obtain ⟨x, ns, rfl, hl, q⟩ := q
  obtain ⟨u, rfl, r1⟩ := reps1 rs
  obtain ⟨a, ws, rfl, h4, h5⟩ := lst_of c r1 hl
  have e := reps_ints h5
  subst e
  exact ⟨a, ns, rfl, h4, k _ _ _ _ _ .refl c mk_int q⟩
theorem pd_sum {X : Cx} {W : WX} {PX : DX} {a : Expr} {tas : TA} {fas : DA} {p pos : Pos} (hc : X.calm = true) (hg : Gl X "sum") (hm : X.mg "sum" = none) (ha : PDA X W PX [a] tas fas) (he : starEach [a] X.env = (false, eval a X.env) :: starEach [] X.env := by rfl) (hpl : (backTo pos (starEach [] X.env)).any (·.1) = false := by rfl) :
    PD X W PX (.Call (.Name "sum" p) [a] [] pos) (tCB (rSum X.K) tas) (dCB qSum fas) := pd_blt (cr_sum hc) oc_sum hg hm (by decide +kernel) ha (he := he) (hpl := hpl)
theorem pd_index {X : Cx} {W : WX} {PX : DX} {o e : Expr} {te : TE} {f : DE} {tas : TA} {fas : DA} {apos cpos : Pos} (hu : X.A.units + 65 < cLine) (ho : PD X W PX o te f) (ha : PDA X W PX [e] tas fas)
    (hbase : attributeBase o "index" X.env (eval o X.env) = eval o X.env := by rfl)
    (hfew : ((backTo cpos (starEach (e :: []) X.env)).all (fun x => !x.1) && (backToKw cpos (keywordEach [] X.env)).all (fun x => x.1.isSome)
      && decide ((e :: []).length + ([] : List Keyword).length + (if ([] : List Keyword).isEmpty then 0 else 1) < 30)) = true := by rfl)
    (hline : (apos.endLine == cpos.line) = true := by rfl) (hs : starEach (e :: []) X.env = (false, eval e X.env) :: starEach [] X.env := by rfl) (hplain : (backTo cpos (starEach [] X.env)).any (·.1) = false := by rfl) :
    PD X W PX (.Call (.Attribute o "index" apos) [e] [] cpos) (tBM X.K "list" (rIndexD X.K) te tas) (dMethL qIndex f fas) :=
  ⟨pe_bm PySem.F.plainAttrs_list PySem.F.slot_list_index PySem.F.type_list_index (mt_indexD hu) ho.pe ha.pe hbase hfew hline hs hplain, he_methL om_index ho.he ha.he⟩
section
variable {K : PySem.W.Frag} {μ : Mu} {P : DK} {C E : Addr} {b : Bool} {n : String} {ds : List D} {x : D} {A : Addr}
theorem isx_of {c : D} {cv : Value} (hC : ExcC K C) (hc : clV c = some cv) (h : PySem.W.kitOne K (.ref C) cv = some b) : qIsx K [.exc (.ref C), c] μ P = P (.bl b) μ := by
  unfold qIsx
  apply propext
  constructor
  · rintro (⟨x, n, t, r, e, h1, _⟩ | ⟨D, d, cv', b', e, h1, _, h2, q⟩)
    · cases e; cases h1
    · cases e
      rw [hc] at h1
      cases h1
      rw [h] at h2
      cases h2
      exact q
  · intro q
    exact .inr ⟨C, c, cv, b, rfl, hc, hC, h, q⟩
theorem r_isxR (hC : ExcC K C) (h : PySem.W.kitOne K (.ref C) (.ref E) = some b) : qIsx K [.exc (.ref C), .ref E] μ P = P (.bl b) μ := isx_of hC rfl h
theorem r_isxT (hC : ExcC K C) (h : PySem.W.kitOne K (.ref C) (.type n) = some b) : qIsx K [.exc (.ref C), .ty n] μ P = P (.bl b) μ := isx_of hC rfl h
theorem r_isExc {c : Value} : qIs (.exc c) .non μ P = P (.bl false) μ := by simp [qIs, isNon]
theorem r_sumL {ns : List Int} : qSum [.lst (ns.map D.int)] μ P = P (.int ns.sum) μ := by
  unfold qSum
  apply propext
  constructor
  · rintro ⟨x, ms, e, h, q⟩
    cases e
    have h : ns.map D.int = ms.map D.int := Option.some.inj h
    have e2 : ns = ms := by
      have inj : ∀ (a b : List Int), a.map D.int = b.map D.int → a = b := by
        intro a
        induction a with
        | nil => intro b h; cases b with
          | nil => rfl
          | cons _ _ => cases h
        | cons x a ih => intro b h; cases b with
          | nil => cases h
          | cons y b =>
            rw [List.map_cons, List.map_cons] at h
            injection h with h1 h2
            cases h1
            rw [ih b h2]
      exact inj _ _ h
    rw [e2]; exact q
  · exact fun q => ⟨_, ns, rfl, rfl, q⟩
theorem r_indexM {f : DE} {fas : DA} {ρ : RE} : dMethL qIndex f fas ρ μ P = f ρ μ fun x μ1 => (∃ ds, lstOf μ1 x = some ds) ∧ fas ρ μ1 fun xs μ2 => qIndex x xs μ2 P := rfl
theorem r_lstL : (∃ es, lstOf μ (.lst ds) = some es) = True := by simp [lstOf]
end
theorem sd_tk {X : Cx} {W : WX} {PX : DX} {ss : List Stmt} {t : TS} {u : DS} (_ : Takes X W) (h : SSD X W PX ss t u) : SSD X W PX ss t u := h
theorem _root_.L2.Room.u65 {j : Nat} {A : Around} (hr : Room j A) : A.units + 65 < cLine := by have := hr.un; omega
theorem pd_isxK {X : Cx} {W : WX} {PX : DX} {a b : Expr} {tas : TA} {fas : DA} {p pos : Pos} (K : PySem.W.Frag) (hK : X.K = K) (hg : Gl X "isinstance") (hm : X.mg "isinstance" = none) (ha : PDA X W PX [a, b] tas fas) (he : starEach [a, b] X.env = (false, eval a X.env) :: starEach [b] X.env := by rfl) (hpl : (backTo pos (starEach [b] X.env)).any (·.1) = false := by rfl) :
    PD X W PX (.Call (.Name "isinstance" p) [a, b] [] pos) (tCB (rIsX X.K) tas) (dCB (qIsx K) fas) := by
  subst hK
  exact pd_isx hg hm ha he hpl
section
variable {X : Cx} {W : WX} {PX : DX} {x n y : Str} {c : Value} {i j : Nat} {body : List Stmt} {np ep yp ap pos pos' : Pos} {tb : WX → TS} {u : DX → DS}
theorem sd_tryKeepK (K : PySem.W.Frag) (hK : X.K = K) (i j : Nat) (hs : X.stack = X.env :: X.outer) (hf : X.env.frame = some X.env.locals) (hN : X.N.Nodup) (hx : X.ex = [])
    (hc : Names X x c)
    (hb : ∀ (W : WX) (PX : DX) (pn : List (Addr × Obj)) (xe : Value → Shared → Prop), Takes (X.tr pn xe) W → PassesOwn (model X.prog X.w) X.A X.env xe → SSD (X.tr pn xe) W PX body (tb W) (u PX))
    (hi : X.N[i]? = some n := by rfl) (hln : X.env.kindOf n = some .local := by rfl) (hj : X.N[j]? = some y := by rfl) (hy : Loc X.env.scope y := by exact .inl rfl)
    (hv : Vis X.env.scope n := by exact Or.inl rfl) (hd : (n == ("__debug__" : Str)) = false := by decide) (hcd : (n == ("__classdict__" : Str)) = false := by decide)
    (hsw : swapsWith (.Name n ep) (some (.Name y yp)) ap.line X.env = pure false := by rfl) (hfy : X.fn y = true ∨ X.env.scope.names.lookup y = some .local := by first | exact .inl rfl | exact .inr rfl) :
    SD X W PX (.Try body [.ExceptHandler (some (.Name x np)) (some n) [.Assign [.Name y yp] (.Name n ep) ap] pos'] [] [] pos) (fun D σ H => tb (wKeep X.K c i (sKeep i j) D) D σ H) (dKeep K c i j u) := by
  subst hK
  exact sd_tryKeep i j hs hf hN hx hc hb hi hln hj hy hv hd hcd hsw hfy
end
theorem pd_callK {X : Cx} {W : WX} {PX : DX} {e : Expr} {es : List Expr} {tas : TA} {fas : DA} {pos : Pos} {ps : List Str} {k : Nat} {sp : DSp} {x : Str} {p : Pos} {j : Nat} (K : PySem.W.Frag) (hK : X.K = K) (D : Df X.prog X.w K X.mg X.base x ps k sp) (tk : Takes X W) (hr : Room j X.A) (hg : Gl X x) (ha : PDA X W PX (e :: es) tas fas) (hk : k ≤ j := by decide) (hdb : (x == ("__debug__" : Str)) = false := by decide)
    (he : starEach (e :: es) X.env = (false, eval e X.env) :: starEach es X.env := by rfl) (hpl : (backTo pos (starEach es X.env)).any (·.1) = false := by rfl) : PD X W PX (.Call (.Name x p) (e :: es) [] pos) (tCallS (spD K sp) (WE W) tas) (dCall sp fas PX) := by
  subst hK
  exact pd_call D tk hr hg ha hk hdb he hpl
theorem r_keep {K : PySem.W.Frag} {c : Value} {i j : Nat} {u : DX → DS} {N : DN} {ρ : RE} {μ : Mu} : dKeep K c i j u N ρ μ = u (fun ρ' cls x μ' => x = none ∧ PySem.W.exmOne K cls c = some true ∧ i < ρ'.length ∧ setR ρ' j (.exc cls) fun ρ1 => setN ρ1 i fun ρ2 => N.nx ρ2 μ') N ρ μ := rfl
/-! ### facts on classes -/
theorem kitCls_mk {K : PySem.W.Frag} {C D : Addr} {b : Bool} (h1 : PySem.W.isClsIn K D = true) (h2 : PySem.W.typeIn K (.ref D) = some (.type "type")) (h3 : PySem.W.subIn K (.ref C) (.ref D) = some b) : PySem.W.kitCls K (.ref C) (.ref D) = some b := by
  unfold PySem.W.kitCls
  unfold PySem.W.isClsIn at h1
  simp [h1, h2, h3]
theorem kit_mk {K : PySem.W.Frag} {C D : Addr} {b : Bool} (h1 : PySem.W.isClsIn K D = true) (h2 : PySem.W.typeIn K (.ref D) = some (.type "type")) (h3 : PySem.W.subIn K (.ref C) (.ref D) = some b) (h4 : PySem.W.subIn K (.ref C) (.ref C) = some true) : PySem.W.kitOne K (.ref C) (.ref D) = some b := by
  unfold PySem.W.kitOne
  rw [kitCls_mk h1 h2 h3]
  split
  · rename_i e
    have e2 : (Value.ref C) = .ref D := eq_of_beq e
    cases e2
    rw [h3] at h4
    exact h4.symm
  · rfl
theorem kit_mkT {K : PySem.W.Frag} {C : Addr} {b : Bool} (h3 : PySem.W.subIn K (.ref C) (.type "ValueError") = some b) : PySem.W.kitOne K (.ref C) (.type "ValueError") = some b := by
  have e : PySem.W.kitMeta "ValueError" = true := by decide +kernel
  unfold PySem.W.kitOne PySem.W.kitCls
  rw [if_neg (by intro z; cases eq_of_beq z)]
  show (if PySem.W.kitMeta "ValueError" = true then PySem.W.subIn K (.ref C) (.type "ValueError") else none) = some b
  rw [if_pos e]
  exact h3
theorem exm_mk {K : PySem.W.Frag} {C D : Addr} {b : Bool} (h0 : PySem.W.subIn K (.ref D) (.type "BaseException") = some true) (h1 : PySem.W.isClsIn K D = true) (h2 : PySem.W.typeIn K (.ref D) = some (.type "type")) (h3 : PySem.W.subIn K (.ref C) (.ref D) = some b) : PySem.W.exmOne K (.ref C) (.ref D) = some b := by
  unfold PySem.W.exmOne
  rw [h0, kitCls_mk h1 h2 h3]
  rfl
/-- a class of our own, by its name -/
theorem pd_clsG {X : Cx} {W : WX} {PX : DX} {pos : Pos} {x : Str} {C : Addr} (hg : Gl X x) (h : X.mg x = some (.ref C)) (hd : (x == ("__debug__" : Str)) = false := by decide) : PD X W PX (.Name x pos) (tC (.ref C)) (dC (.ref C)) := pd_glob hg h rfl mk_ref hd
/-- a statement and the rest, with what holds between -/
def dCutS (u v : DS) (N : DN) (ρ : RE) (μ : Mu) : Prop := ∃ I : RE → Mu → Prop, u { N with nx := I } ρ μ ∧ ∀ ρ' μ', I ρ' μ' → v N ρ' μ'
theorem sd_cut {X : Cx} {W : WX} {PX : DX} {st : Stmt} {sts : List Stmt} {ts tr : TS} {u v : DS} (h1 : SD X W PX st ts u) (h2 : SSD X W PX sts tr v) : SSD X W PX (st :: sts) (tSeq ts tr) (dCutS u v) := by
  refine ⟨pss_cons h1.pe h2.pe, fun T wl σ F H ρ μ N E R hf L => ?_⟩
  obtain ⟨I, hf, hv⟩ := hf
  refine h1.he T wl σ F H ρ μ { N with nx := I } _ R hf ⟨fun ρ' μ' σ' F' H' g R' hi => ?_, L.rt, L.bk, L.ct⟩
  exact h2.he T wl σ' F' H' ρ' μ' N E R' (hv _ _ hi) (L.go g)
end
section
/-! ### the rules with the written part named -/
section
variable {X : Cx} {W : WX} {PX : DX} {a b c e : Expr} {ta tb tc te : TE} {f g h : DE} {pos p : Pos} {es rest : List Expr} {tas : TA} {fas : DA} {j : Nat}
theorem pd_addK (K : PySem.W.Frag) (hK : X.K = K) (ha : PD X W PX a ta f) (hb : PD X W PX b tb g) : PD X W PX (.BinOp a .Add b pos) (tOp (rPlus K) ta tb) (dOp qAdd f g) := by subst hK; exact pd_add ha hb
theorem pd_eqK (K : PySem.W.Frag) (hK : X.K = K) (hu : X.A.units + 64 < cLine) (ha : PD X W PX a ta f) (hb : PD X W PX b tb g) : PD X W PX (.Compare a [.Eq] [b] pos) (tOp (rEqD K) ta tb) (dOp qEq f g) := by subst hK; exact pd_eq hu ha hb
theorem pd_neK (K : PySem.W.Frag) (hK : X.K = K) (hu : X.A.units + 64 < cLine) (ha : PD X W PX a ta f) (hb : PD X W PX b tb g) : PD X W PX (.Compare a [.NotEq] [b] pos) (tOp (rNeD K) ta tb) (dOp qNe f g) := by subst hK; exact pd_ne hu ha hb
theorem pt_eqK (K : PySem.W.Frag) (hK : X.K = K) (hu : X.A.units + 64 < cLine) (ha : PD X W PX a ta f) (hb : PD X W PX b tb g) : PDT X W PX (.Compare a [.Eq] [b] pos) (tTest (tOp (rEqD K) ta tb)) (dB (dOp qEq f g)) := by subst hK; exact pt_eq hu ha hb
theorem pt_neK (K : PySem.W.Frag) (hK : X.K = K) (hu : X.A.units + 64 < cLine) (ha : PD X W PX a ta f) (hb : PD X W PX b tb g) : PDT X W PX (.Compare a [.NotEq] [b] pos) (tTest (tOp (rNeD K) ta tb)) (dB (dOp qNe f g)) := by subst hK; exact pt_ne hu ha hb
theorem pd_ixK (K : PySem.W.Frag) (hK : X.K = K) (ha : PD X W PX a ta f) (hb : PD X W PX b tb g) (hs : PlainIx b := by intro _ _; rfl) : PD X W PX (.Subscript a b pos) (tOp (rIx K) ta tb) (dOp qIx f g) := by subst hK; exact pd_ix ha hb hs
theorem pd_cutK (K : PySem.W.Frag) (hK : X.K = K) {lo hi : Option Expr} {tl th : TO} {l h : DO} {p2} (he : PD X W PX e te f) (hl : PDO X W PX lo tl l) (hh : PDO X W PX hi th h) : PD X W PX (.Subscript e (.Slice lo hi none p2) pos) (tSl (rCut K) te tl th) (dCut f l h) := by subst hK; exact pd_cut he hl hh
theorem pd_inK (K : PySem.W.Frag) (hK : X.K = K) (hr : Room j X.A) (ha : PD X W PX a ta f) (hb : PD X W PX b tb g) (hm : behindInMarks .In b = false := by rfl) : PD X W PX (.Compare a [.In] [b] pos) (tOp (rInB K false) ta tb) (dOp (qInB false) f g) := by subst hK; exact pd_in hr ha hb hm
theorem pd_notinK (K : PySem.W.Frag) (hK : X.K = K) (hr : Room j X.A) (ha : PD X W PX a ta f) (hb : PD X W PX b tb g) (hm : behindInMarks .NotIn b = false := by rfl) : PD X W PX (.Compare a [.NotIn] [b] pos) (tOp (rInB K true) ta tb) (dOp (qInB true) f g) := by subst hK; exact pd_notin hr ha hb hm
theorem pt_inK (K : PySem.W.Frag) (hK : X.K = K) (hr : Room j X.A) (ha : PD X W PX a ta f) (hb : PD X W PX b tb g) (hm : behindInMarks .In b = false := by rfl) : PDT X W PX (.Compare a [.In] [b] pos) (tTest (tOp (rInB K false) ta tb)) (dB (dOp (qInB false) f g)) := by subst hK; exact pt_in hr ha hb hm
theorem pt_notinK (K : PySem.W.Frag) (hK : X.K = K) (hr : Room j X.A) (ha : PD X W PX a ta f) (hb : PD X W PX b tb g) (hm : behindInMarks .NotIn b = false := by rfl) : PDT X W PX (.Compare a [.NotIn] [b] pos) (tTest (tOp (rInB K true) ta tb)) (dB (dOp (qInB true) f g)) := by subst hK; exact pt_notin hr ha hb hm
theorem pd_isiK (K : PySem.W.Frag) (hK : X.K = K) (hg : Gl X "isinstance") (hm : X.mg "isinstance" = none) (ha : PDA X W PX [a, b] tas fas) (he : starEach [a, b] X.env = (false, eval a X.env) :: starEach [b] X.env := by rfl) (hpl : (backTo pos (starEach [b] X.env)).any (·.1) = false := by rfl) :
    PD X W PX (.Call (.Name "isinstance" p) [a, b] [] pos) (tCB (rIsi K) tas) (dCB qIsi fas) := by subst hK; exact pd_isi hg hm ha he hpl
theorem pd_lenK (K : PySem.W.Frag) (hK : X.K = K) (hg : Gl X "len") (hm : X.mg "len" = none) (ha : PDA X W PX [a] tas fas) (he : starEach [a] X.env = (false, eval a X.env) :: starEach [] X.env := by rfl) (hpl : (backTo pos (starEach [] X.env)).any (·.1) = false := by rfl) :
    PD X W PX (.Call (.Name "len" p) [a] [] pos) (tCB (rLen K) tas) (dCB qLen fas) := by subst hK; exact pd_len hg hm ha he hpl
end
end
section
/-! ### == of data -/
mutual
def fitD : Nat → D → Bool
  | _, .non => true
  | _, .bl _ => true
  | _, .int _ => true
  | _, .str x => PyData.strOk x
  | 0, _ => false
  | n + 1, .tup ds => fitDs n ds
  | n + 1, .lst ds => fitDs n ds
  | n + 1, .ro ds => fitDs n ds
  | _, .ref _ => false
  | _, .ty _ => false
  | _, .exc _ => false
def fitDs : Nat → List D → Bool
  | _, [] => true
  | n, d :: ds => fitD n d && fitDs n ds
end
mutual
theorem fit_py : ∀ {n : Nat} {d : D}, fitD n d = true → ∃ p, py d = some p ∧ PyData.canLay0 p = true ∧ p.depth ≤ n + 1
  | n, .non, _ => ⟨.none, by unfold py; rfl, by simp [PyData.canLay0], by simp [PyData.depth]⟩
  | n, .bl b, _ => ⟨.bool b, by unfold py; rfl, by simp [PyData.canLay0], by simp [PyData.depth]⟩
  | n, .int i, _ => ⟨.int i, by unfold py; rfl, by simp [PyData.canLay0], by simp [PyData.depth]⟩
  | n, .str x, h => ⟨.str x, by unfold py; rfl, by
      rw [PyData.canLay0]
      cases n <;> simpa [fitD] using h, by simp [PyData.depth]⟩
  | 0, .tup _, h => by simp [fitD] at h
  | 0, .lst _, h => by simp [fitD] at h
  | 0, .ro _, h => by simp [fitD] at h
  | 0, .ref _, h => by simp [fitD] at h
  | 0, .ty _, h => by simp [fitD] at h
  | 0, .exc _, h => by simp [fitD] at h
  | n + 1, .ref _, h => by simp [fitD] at h
  | n + 1, .ty _, h => by simp [fitD] at h
  | n + 1, .exc _, h => by simp [fitD] at h
  | n + 1, .tup ds, h => by
    obtain ⟨ps, h1, h2, h3⟩ := fit_pys (show fitDs n ds = true by simpa [fitD] using h)
    exact ⟨.tuple ps, by unfold py; rw [h1]; rfl, by rw [PyData.canLay0]; exact h2, by rw [PyData.depth]; omega⟩
  | n + 1, .lst ds, h => by
    obtain ⟨ps, h1, h2, h3⟩ := fit_pys (show fitDs n ds = true by simpa [fitD] using h)
    exact ⟨.list ps, by unfold py; rw [h1]; rfl, by rw [PyData.canLay0]; exact h2, by rw [PyData.depth]; omega⟩
  | n + 1, .ro ds, h => by
    obtain ⟨ps, h1, h2, h3⟩ := fit_pys (show fitDs n ds = true by simpa [fitD] using h)
    exact ⟨.list ps, by unfold py; rw [h1]; rfl, by rw [PyData.canLay0]; exact h2, by rw [PyData.depth]; omega⟩
theorem fit_pys : ∀ {n : Nat} {ds : List D}, fitDs n ds = true → ∃ ps, pys ds = some ps ∧ PyData.canLayAll0 ps = true ∧ PyData.depthAll ps ≤ n + 1
  | n, [], _ => ⟨[], by unfold pys; rfl, by simp [PyData.canLayAll0], by simp [PyData.depthAll]⟩
  | n, d :: ds, h => by
    rw [fitDs, Bool.and_eq_true] at h
    obtain ⟨p, h1, h2, h3⟩ := fit_py h.1
    obtain ⟨ps, h4, h5, h6⟩ := fit_pys h.2
    exact ⟨p :: ps, by unfold pys; rw [h1, h4]; rfl, by rw [PyData.canLayAll0, h2, h5]; rfl, by rw [PyData.depthAll]; omega⟩
end
mutual
def deq : D → D → Bool
  | .non, .non => true
  | .bl a, .bl b => a == b
  | .bl a, .int j => (if a then 1 else 0) == j
  | .int i, .bl b => i == (if b then 1 else 0)
  | .int i, .int j => i == j
  | .str x, .str y => x == y
  | .tup xs, .tup ys => deqs xs ys
  | .lst xs, .lst ys => deqs xs ys
  | .lst xs, .ro ys => deqs xs ys
  | .ro xs, .lst ys => deqs xs ys
  | .ro xs, .ro ys => deqs xs ys
  | _, _ => false
def deqs : List D → List D → Bool
  | [], [] => true
  | x :: xs, y :: ys => deq x y && deqs xs ys
  | _, _ => false
end
mutual
theorem eqv_deq : ∀ {x y : D} {p q : PyData}, py x = some p → py y = some q → PyData.eqv p q = deq x y
  | x, y, p, q, hx, hy => by
    cases x <;> cases y <;> simp only [py, Option.map_eq_some_iff, Option.some.injEq, reduceCtorEq] at hx hy
    all_goals first
      | (obtain ⟨ps, h1, rfl⟩ := hx; obtain ⟨qs, h2, rfl⟩ := hy; first | (rw [PyData.eqv, deq]; exact eqvs_deqs h1 h2) | (rw [PyData.eqv, deq] <;> intros <;> simp_all))
      | (obtain ⟨ps, h1, rfl⟩ := hx; subst hy; rw [PyData.eqv, deq] <;> intros <;> simp_all)
      | (obtain ⟨qs, h2, rfl⟩ := hy; subst hx; rw [PyData.eqv, deq] <;> intros <;> simp_all)
      | (subst hx; subst hy; rw [PyData.eqv, deq] <;> intros <;> simp_all)
theorem eqvs_deqs : ∀ {xs ys : List D} {ps qs : List PyData}, pys xs = some ps → pys ys = some qs → PyData.eqvAll ps qs = deqs xs ys
  | [], [], _, _, hx, hy => by
    simp only [pys, Option.some.injEq] at hx hy
    subst hx hy
    rw [PyData.eqvAll, deqs]
  | [], y :: ys, _, _, hx, hy => by
    simp only [pys, Option.some.injEq, Option.bind_eq_some_iff, Option.map_eq_some_iff] at hx hy
    obtain ⟨q, h1, qs, h2, rfl⟩ := hy
    subst hx
    rw [PyData.eqvAll, deqs] <;> intros <;> simp_all
  | x :: xs, [], _, _, hx, hy => by
    simp only [pys, Option.some.injEq, Option.bind_eq_some_iff, Option.map_eq_some_iff] at hx hy
    obtain ⟨q, h1, qs, h2, rfl⟩ := hx
    subst hy
    rw [PyData.eqvAll, deqs] <;> intros <;> simp_all
  | x :: xs, y :: ys, _, _, hx, hy => by
    simp only [pys, Option.bind_eq_some_iff, Option.map_eq_some_iff] at hx hy
    obtain ⟨p, h1, ps, h2, rfl⟩ := hx
    obtain ⟨q, h3, qs, h4, rfl⟩ := hy
    rw [PyData.eqvAll, deqs, eqv_deq h1 h3, eqvs_deqs h2 h4]
end
section
variable {x y : D} {μ : Mu} {P : DK}
theorem pyM_fit {n : Nat} (h : fitD n x = true) : pyM μ x = py x := by
  cases x with
  | ref _ => cases n <;> simp [fitD] at h
  | _ => rfl
theorem r_eqD (hx : fitD 60 x = true) (hy : fitD 60 y = true) : qEq x y μ P = P (.bl (deq x y)) μ := by
  obtain ⟨p, h1, h2, h3⟩ := fit_py hx
  obtain ⟨q, k1, k2, k3⟩ := fit_py hy
  have e := eqv_deq h1 k1
  unfold qEq
  rw [pyM_fit hx, pyM_fit hy, h1, k1, ← e]
  apply propext
  constructor
  · rintro ⟨p', q', e1, e2, _, _, h⟩
    cases e1; cases e2
    exact h
  · intro h
    exact ⟨p, q, rfl, rfl, by unfold SeqAt.shaped; rw [h2]; simp; omega, by unfold SeqAt.shaped; rw [k2]; simp; omega, h⟩
theorem r_neD (hx : fitD 60 x = true) (hy : fitD 60 y = true) : qNe x y μ P = P (.bl (!deq x y)) μ := by
  obtain ⟨p, h1, h2, h3⟩ := fit_py hx
  obtain ⟨q, k1, k2, k3⟩ := fit_py hy
  have e := eqv_deq h1 k1
  unfold qNe
  rw [pyM_fit hx, pyM_fit hy, h1, k1, ← e]
  apply propext
  constructor
  · rintro ⟨p', q', e1, e2, _, _, h⟩
    cases e1; cases e2
    exact h
  · intro h
    exact ⟨p, q, rfl, rfl, by unfold SeqAt.shaped; rw [h2]; simp; omega, by unfold SeqAt.shaped; rw [k2]; simp; omega, h⟩
end
mutual
/-- no truth against a number -/
def simD : D → D → Bool
  | .bl _, .int _ => false
  | .int _, .bl _ => false
  | .lst _, .ro _ => false
  | .ro _, .lst _ => false
  | .tup xs, .tup ys => simDs xs ys
  | .lst xs, .lst ys => simDs xs ys
  | .ro xs, .ro ys => simDs xs ys
  | .ref _, _ => false
  | .ty _, _ => false
  | .exc _, _ => false
  | _, _ => true
def simDs : List D → List D → Bool
  | x :: xs, y :: ys => simD x y && simDs xs ys
  | _, _ => true
end
mutual
theorem deq_iff : ∀ {x y : D}, simD x y = true → (deq x y = true ↔ x = y)
  | .tup xs, .tup ys, h => by
    rw [deq, deqs_iff (by simpa [simD] using h)]
    constructor
    · intro e; rw [e]
    · intro e; injection e
  | .lst xs, .lst ys, h => by
    rw [deq, deqs_iff (by simpa [simD] using h)]
    constructor
    · intro e; rw [e]
    · intro e; injection e
  | .ro xs, .ro ys, h => by
    rw [deq, deqs_iff (by simpa [simD] using h)]
    constructor
    · intro e; rw [e]
    · intro e; injection e
  | .non, y, h => by cases y <;> simp_all [deq, simD]
  | .bl _, y, h => by cases y <;> simp_all [deq, simD]
  | .int _, y, h => by cases y <;> simp_all [deq, simD]
  | .str _, y, h => by cases y <;> simp_all [deq, simD]
  | .ref _, y, h => by cases y <;> simp_all [deq, simD]
  | .ty _, y, h => by cases y <;> simp_all [deq, simD]
  | .exc _, y, h => by cases y <;> simp_all [deq, simD]
  | .tup _, .non, h => by simp_all [deq, simD]
  | .tup _, .bl _, h => by simp_all [deq, simD]
  | .tup _, .int _, h => by simp_all [deq, simD]
  | .tup _, .str _, h => by simp_all [deq, simD]
  | .tup _, .ref _, h => by simp_all [deq, simD]
  | .tup _, .ty _, h => by simp_all [deq, simD]
  | .tup _, .exc _, h => by simp_all [deq, simD]
  | .tup _, .lst _, h => by simp_all [deq, simD]
  | .tup _, .ro _, h => by simp_all [deq, simD]
  | .lst _, .non, h => by simp_all [deq, simD]
  | .lst _, .bl _, h => by simp_all [deq, simD]
  | .lst _, .int _, h => by simp_all [deq, simD]
  | .lst _, .str _, h => by simp_all [deq, simD]
  | .lst _, .ref _, h => by simp_all [deq, simD]
  | .lst _, .ty _, h => by simp_all [deq, simD]
  | .lst _, .exc _, h => by simp_all [deq, simD]
  | .lst _, .tup _, h => by simp_all [deq, simD]
  | .lst _, .ro _, h => by simp_all [deq, simD]
  | .ro _, .non, h => by simp_all [deq, simD]
  | .ro _, .bl _, h => by simp_all [deq, simD]
  | .ro _, .int _, h => by simp_all [deq, simD]
  | .ro _, .str _, h => by simp_all [deq, simD]
  | .ro _, .ref _, h => by simp_all [deq, simD]
  | .ro _, .ty _, h => by simp_all [deq, simD]
  | .ro _, .exc _, h => by simp_all [deq, simD]
  | .ro _, .tup _, h => by simp_all [deq, simD]
  | .ro _, .lst _, h => by simp_all [deq, simD]
theorem deqs_iff : ∀ {xs ys : List D}, simDs xs ys = true → (deqs xs ys = true ↔ xs = ys)
  | [], [], _ => by simp [deqs]
  | [], y :: ys, _ => by simp [deqs]
  | x :: xs, [], _ => by simp [deqs]
  | x :: xs, y :: ys, h => by
    rw [simDs, Bool.and_eq_true] at h
    rw [deqs, Bool.and_eq_true, deq_iff h.1, deqs_iff h.2]
    constructor
    · rintro ⟨rfl, rfl⟩; rfl
    · intro e; cases e; exact ⟨rfl, rfl⟩
end
section
variable {p q : Int × Int} {m m1 : Mom} {a b : Str} {μ : Mu} {P : DK} {x y : D}
theorem fit_fr : fitD 60 (fr p) = true := by simp [fr, fitD, fitDs]
theorem fit_mom : fitD 60 m.d = true := by cases m <;> simp [Mom.d, fr, fitD, fitDs]
theorem fr_inj : fr p = fr q ↔ p = q := by
  obtain ⟨a, b⟩ := p
  obtain ⟨c, d⟩ := q
  simp [fr]
theorem mom_inj : m.d = m1.d ↔ m = m1 := by
  cases m <;> cases m1 <;> simp [Mom.d, fr_inj]
  · simp [fr]
  · simp [fr]
theorem bool_dec {b : Bool} {c : Prop} [Decidable c] (h : b = true ↔ c) : b = decide c := by
  cases b <;> simp_all
theorem deq_of {c : Prop} [Decidable c] (h : simD x y = true) (k : x = y ↔ c) : deq x y = decide c := bool_dec ((deq_iff h).trans k)
instance : DecidableEq Mom := fun a b => match a, b with
  | .q f, .q g => decidable_of_iff (f = g) (by simp)
  | .q _, .r _ _ _ _ => isFalse (by simp)
  | .r _ _ _ _, .q _ => isFalse (by simp)
  | .r a b c s, .r a' b' c' s' => decidable_of_iff (a = a' ∧ b = b' ∧ c = c' ∧ s = s') (by simp)
theorem not_dec {c : Prop} [Decidable c] : (!decide c) = decide (¬ c) := by simp
theorem r_eqF : qEq (fr p) (fr q) μ P = P (.bl (decide (p = q))) μ := by
  rw [r_eqD fit_fr fit_fr, deq_of (by simp [fr, simD, simDs]) fr_inj]
theorem r_neF : qNe (fr p) (fr q) μ P = P (.bl (decide (¬ p = q))) μ := by
  rw [r_neD fit_fr fit_fr, deq_of (by simp [fr, simD, simDs]) fr_inj, not_dec]
theorem sim_mom : simD m.d m1.d = true := by cases m <;> cases m1 <;> simp [Mom.d, fr, simD, simDs]
theorem r_eqM : qEq m.d m1.d μ P = P (.bl (decide (m = m1))) μ := by
  rw [r_eqD fit_mom fit_mom, deq_of sim_mom mom_inj]
theorem r_neM : qNe m.d m1.d μ P = P (.bl (decide (¬ m = m1))) μ := by
  rw [r_neD fit_mom fit_mom, deq_of sim_mom mom_inj, not_dec]
theorem r_eqS (ha : PyData.strOk a = true) (hb : PyData.strOk b = true) : qEq (.str a) (.str b) μ P = P (.bl (decide (a = b))) μ := by
  rw [r_eqD (by simpa [fitD] using ha) (by simpa [fitD] using hb), deq_of (c := a = b) (by simp [simD]) (by simp)]
theorem r_neS (ha : PyData.strOk a = true) (hb : PyData.strOk b = true) : qNe (.str a) (.str b) μ P = P (.bl (decide (¬ a = b))) μ := by
  rw [r_neD (by simpa [fitD] using ha) (by simpa [fitD] using hb), deq_of (c := a = b) (by simp [simD]) (by simp), not_dec]
theorem r_isiFr : qIsi [fr p, .ty "tuple"] μ P = P (.bl true) μ := r_isiTT
theorem r_eqB {a b : Bool} : qEq (.bl a) (.bl b) μ P = P (.bl (a == b)) μ := by
  rw [r_eqD (by simp [fitD]) (by simp [fitD])]; simp [deq]
theorem r_neB {a b : Bool} : qNe (.bl a) (.bl b) μ P = P (.bl (!(a == b))) μ := by
  rw [r_neD (by simp [fitD]) (by simp [fitD])]; simp [deq]
end
end
section
/-! ### real numbers, as rows of rationals -/
def Cau (f : Nat → Rat) : Prop := ∀ e : Rat, 0 < e → ∃ N : Nat, ∀ m n, N ≤ m → N ≤ n → f m - f n < e
def Nul (f : Nat → Rat) : Prop := ∀ e : Rat, 0 < e → ∃ N : Nat, ∀ n, N ≤ n → f n < e ∧ -e < f n
theorem Cau.add {f g : Nat → Rat} (hf : Cau f) (hg : Cau g) : Cau fun n => f n + g n := by
  intro e he
  obtain ⟨N, h1⟩ := hf (e / 2) (by grind)
  obtain ⟨M, h2⟩ := hg (e / 2) (by grind)
  refine ⟨max N M, fun m n hm hn => ?_⟩
  have := h1 m n (by omega) (by omega)
  have := h2 m n (by omega) (by omega)
  grind
theorem Cau.neg {f : Nat → Rat} (hf : Cau f) : Cau fun n => - f n := by
  intro e he
  obtain ⟨N, h1⟩ := hf e he
  refine ⟨N, fun m n hm hn => ?_⟩
  have := h1 n m hn hm
  grind
theorem rat_bd (f : Nat → Rat) : ∀ N : Nat, ∃ B : Rat, 0 < B ∧ ∀ n, n < N → f n < B ∧ -B < f n
  | 0 => ⟨1, by decide, fun n h => absurd h (by omega)⟩
  | N + 1 => by
    obtain ⟨B, h0, h⟩ := rat_bd f N
    by_cases h1 : f N < 0
    · refine ⟨B - f N + 1, by grind, fun n hn => ?_⟩
      by_cases e : n = N
      · subst e; constructor <;> grind
      · have := h n (by omega); constructor <;> grind
    · refine ⟨B + f N + 1, by grind, fun n hn => ?_⟩
      by_cases e : n = N
      · subst e; constructor <;> grind
      · have := h n (by omega); constructor <;> grind
theorem Cau.bd {f : Nat → Rat} (hf : Cau f) : ∃ B : Rat, 0 < B ∧ ∀ n, f n < B ∧ -B < f n := by
  obtain ⟨N, h⟩ := hf 1 (by decide)
  obtain ⟨B, h0, h1⟩ := rat_bd f (N + 1)
  refine ⟨B + 1, by grind, fun n => ?_⟩
  by_cases e : n < N + 1
  · have := h1 n e; constructor <;> grind
  · have a := h1 N (by omega)
    have b := h n N (by omega) (by omega)
    have c := h N n (by omega) (by omega)
    constructor <;> grind
theorem rmul_lt {a b x y : Rat} (ha : a < x) (ha2 : -x < a) (hb : b < y) (hb2 : -y < b) : a * b < x * y ∧ -(x * y) < a * b := by
  have h1 := Rat.mul_pos (show 0 < x - a by grind) (show 0 < y + b by grind)
  have h2 := Rat.mul_pos (show 0 < x + a by grind) (show 0 < y - b by grind)
  have h3 := Rat.mul_pos (show 0 < x - a by grind) (show 0 < y - b by grind)
  have h4 := Rat.mul_pos (show 0 < x + a by grind) (show 0 < y + b by grind)
  constructor <;> grind
theorem half_of {e B : Rat} (he : 0 < e) (hB : 0 < B) : 0 < e / (2 * B) ∧ B * (e / (2 * B)) = e / 2 := by
  have h2 : B * (e / (2 * B)) = e / 2 := by grind
  refine ⟨?_, h2⟩
  apply Rat.not_le.mp
  intro z
  have := Rat.mul_nonneg (Rat.le_of_lt hB) (show 0 ≤ -(e / (2 * B)) by grind)
  grind
theorem Cau.mul {f g : Nat → Rat} (hf : Cau f) (hg : Cau g) : Cau fun n => f n * g n := by
  intro e he
  obtain ⟨B, b0, hB⟩ := hf.bd
  obtain ⟨D, d0, hD⟩ := hg.bd
  obtain ⟨p1, q1⟩ := half_of he d0
  obtain ⟨p2, q2⟩ := half_of he b0
  obtain ⟨N, h1⟩ := hf _ p1
  obtain ⟨M, h2⟩ := hg _ p2
  refine ⟨max N M, fun m n hm hn => ?_⟩
  have a1 := h1 m n (by omega) (by omega)
  have a2 := h1 n m (by omega) (by omega)
  have c1 := h2 m n (by omega) (by omega)
  have c2 := h2 n m (by omega) (by omega)
  have k1 := (rmul_lt (hD m).1 (hD m).2 a1 (by grind)).1
  have k2 := (rmul_lt (hB n).1 (hB n).2 c1 (by grind)).1
  show f m * g m - f n * g n < e
  generalize e / (2 * D) = u at *
  generalize e / (2 * B) = v at *
  have : f m * g m - f n * g n = g m * (f m - f n) + f n * (g m - g n) := by grind
  grind
theorem Cau.const (q : Rat) : Cau fun _ => q := fun e he => ⟨0, fun _ _ _ _ => by grind⟩
theorem Nul.add {f g : Nat → Rat} (hf : Nul f) (hg : Nul g) : Nul fun n => f n + g n := by
  intro e he
  obtain ⟨N, h1⟩ := hf (e / 2) (by grind)
  obtain ⟨M, h2⟩ := hg (e / 2) (by grind)
  refine ⟨max N M, fun n hn => ?_⟩
  have := h1 n (by omega)
  have := h2 n (by omega)
  constructor <;> grind
theorem Nul.neg {f : Nat → Rat} (hf : Nul f) : Nul fun n => - f n := by
  intro e he
  obtain ⟨N, h1⟩ := hf e he
  refine ⟨N, fun n hn => ?_⟩
  have := h1 n hn
  constructor <;> grind
theorem Nul.mul {f g : Nat → Rat} (hf : Nul f) (hg : Cau g) : Nul fun n => f n * g n := by
  intro e he
  obtain ⟨B, b0, hB⟩ := hg.bd
  obtain ⟨p1, q1⟩ := half_of he b0
  obtain ⟨N, h1⟩ := hf _ p1
  refine ⟨N, fun n hn => ?_⟩
  have a := h1 n hn
  have k := rmul_lt a.1 a.2 (hB n).1 (hB n).2
  show f n * g n < e ∧ -e < f n * g n
  generalize e / (2 * B) = u at *
  constructor <;> grind
theorem Nul.zero : Nul fun _ => 0 := fun e he => ⟨0, fun _ _ => by constructor <;> grind⟩
structure CS where
  f : Nat → Rat
  h : Cau f
instance rSet : Setoid CS where
  r x y := Nul fun n => x.f n - y.f n
  iseqv := ⟨fun x => by have := Nul.zero; simpa [Rat.sub_self] using this, fun {x y} h => by
    have := h.neg
    have e : (fun n => -(x.f n - y.f n)) = fun n => y.f n - x.f n := by funext n; grind
    rwa [e] at this, fun {x y z} h1 h2 => by
    have := h1.add h2
    have e : (fun n => x.f n - y.f n + (y.f n - z.f n)) = fun n => x.f n - z.f n := by funext n; grind
    rwa [e] at this⟩
def RR := Quotient rSet
def CS.add (x y : CS) : CS := ⟨_, x.h.add y.h⟩
def CS.mul (x y : CS) : CS := ⟨_, x.h.mul y.h⟩
def CS.neg (x : CS) : CS := ⟨_, x.h.neg⟩
def CS.of (q : Rat) : CS := ⟨_, Cau.const q⟩
def rq (q : Rat) : RR := Quotient.mk _ (CS.of q)
def RR.add : RR → RR → RR := Quotient.lift₂ (fun x y => Quotient.mk rSet (CS.add x y)) fun x y x' y' h g => Quotient.sound <| by
  have := Nul.add h g
  have e : (fun n => x.f n - x'.f n + (y.f n - y'.f n)) = fun n => (x.add y).f n - (x'.add y').f n := by funext n; simp only [CS.add]; grind
  rw [e] at this
  exact this
def RR.mul : RR → RR → RR := Quotient.lift₂ (fun x y => Quotient.mk rSet (CS.mul x y)) fun x y x' y' h g => Quotient.sound <| by
  have := Nul.add (Nul.mul h y.h) (Nul.mul g x'.h)
  have e : (fun n => (x.f n - x'.f n) * y.f n + (y.f n - y'.f n) * x'.f n) = fun n => (x.mul y).f n - (x'.mul y').f n := by funext n; simp only [CS.mul]; grind
  rw [e] at this
  exact this
def RR.neg : RR → RR := Quotient.lift (fun x => Quotient.mk rSet (CS.neg x)) fun x x' h => Quotient.sound <| by
  have := Nul.neg h
  have e : (fun n => -(x.f n - x'.f n)) = fun n => x.neg.f n - x'.neg.f n := by funext n; simp only [CS.neg]; grind
  rw [e] at this
  exact this
instance : Add RR := ⟨RR.add⟩
instance : Mul RR := ⟨RR.mul⟩
instance : Neg RR := ⟨RR.neg⟩
instance : Sub RR := ⟨fun x y => x + -y⟩
instance : NatCast RR := ⟨fun n => rq n⟩
instance : IntCast RR := ⟨fun n => rq n⟩
instance (n : Nat) : OfNat RR n := ⟨rq n⟩
def RR.pow (x : RR) : Nat → RR
  | 0 => 1
  | n + 1 => RR.pow x n * x
instance : HPow RR Nat RR := ⟨RR.pow⟩
instance : SMul Nat RR := ⟨fun n x => (n : RR) * x⟩
instance : SMul Int RR := ⟨fun n x => (n : RR) * x⟩
theorem rr_ext {x y : CS} (h : ∀ n, x.f n = y.f n) : (Quotient.mk rSet x : RR) = Quotient.mk rSet y := by
  apply Quotient.sound
  show Nul fun n => x.f n - y.f n
  have e : (fun n => x.f n - y.f n) = fun _ => 0 := by funext n; rw [h]; grind
  rw [e]
  exact Nul.zero
theorem rq_add (p q : Rat) : rq p + rq q = rq (p + q) := rr_ext fun _ => rfl
theorem rq_mul (p q : Rat) : rq p * rq q = rq (p * q) := rr_ext fun _ => rfl
theorem rq_neg (p : Rat) : - rq p = rq (-p) := rr_ext fun _ => rfl
theorem rq_nat (n : Nat) : ((n : Nat) : RR) = rq n := rfl
theorem rq_int (n : Int) : ((n : Int) : RR) = rq n := rfl
theorem rq_ofNat (n : Nat) : (OfNat.ofNat n : RR) = rq n := rfl
instance : Lean.Grind.CommRing RR where
  natCast := inferInstance
  ofNat := inferInstance
  nsmul := inferInstance
  npow := inferInstance
  intCast := inferInstance
  zsmul := inferInstance
  add_zero := by
    refine Quotient.ind fun a => rr_ext fun n => ?_
    show a.f n + ((0 : Nat) : Rat) = a.f n
    grind
  add_comm := by
    refine Quotient.ind fun a => Quotient.ind fun b => rr_ext fun n => ?_
    show a.f n + b.f n = b.f n + a.f n
    grind
  add_assoc := by
    refine Quotient.ind fun a => Quotient.ind fun b => Quotient.ind fun c => rr_ext fun n => ?_
    show a.f n + b.f n + c.f n = a.f n + (b.f n + c.f n)
    grind
  mul_assoc := by
    refine Quotient.ind fun a => Quotient.ind fun b => Quotient.ind fun c => rr_ext fun n => ?_
    show a.f n * b.f n * c.f n = a.f n * (b.f n * c.f n)
    grind
  mul_one := by
    refine Quotient.ind fun a => rr_ext fun n => ?_
    show a.f n * ((1 : Nat) : Rat) = a.f n
    grind
  left_distrib := by
    refine Quotient.ind fun a => Quotient.ind fun b => Quotient.ind fun c => rr_ext fun n => ?_
    show a.f n * (b.f n + c.f n) = a.f n * b.f n + a.f n * c.f n
    grind
  zero_mul := by
    refine Quotient.ind fun a => rr_ext fun n => ?_
    show ((0 : Nat) : Rat) * a.f n = ((0 : Nat) : Rat)
    grind
  mul_comm := by
    refine Quotient.ind fun a => Quotient.ind fun b => rr_ext fun n => ?_
    show a.f n * b.f n = b.f n * a.f n
    grind
  pow_zero := fun _ => rfl
  pow_succ := fun _ _ => rfl
  ofNat_succ := fun a => by
    show rq _ = rq _ + rq _
    rw [rq_add]
    congr 1
    simp [Rat.natCast_add]
  one_mul := by
    refine Quotient.ind fun a => rr_ext fun n => ?_
    show ((1 : Nat) : Rat) * a.f n = a.f n
    grind
  right_distrib := by
    refine Quotient.ind fun a => Quotient.ind fun b => Quotient.ind fun c => rr_ext fun n => ?_
    show (a.f n + b.f n) * c.f n = a.f n * c.f n + b.f n * c.f n
    grind
  mul_zero := by
    refine Quotient.ind fun a => rr_ext fun n => ?_
    show a.f n * ((0 : Nat) : Rat) = ((0 : Nat) : Rat)
    grind
  neg_add_cancel := by
    refine Quotient.ind fun a => rr_ext fun n => ?_
    show -a.f n + a.f n = ((0 : Nat) : Rat)
    grind
  sub_eq_add_neg := fun _ _ => rfl
  neg_zsmul := fun i a => by
    show ((-i : Int) : RR) * a = -((i : RR) * a)
    revert a
    refine Quotient.ind fun a => rr_ext fun n => ?_
    show ((-i : Int) : Rat) * a.f n = -(((i : Int) : Rat) * a.f n)
    rw [Rat.intCast_neg]
    grind
  zsmul_natCast_eq_nsmul := fun n a => by
    show ((n : Int) : RR) * a = (n : RR) * a
    congr 1
  intCast_ofNat := fun n => by
    show rq _ = rq _
    congr 1
  intCast_neg := fun i => by
    show rq _ = - rq _
    rw [rq_neg]
    congr 1
/-! ### their order -/
def Psq (f : Nat → Rat) : Prop := ∃ e : Rat, 0 < e ∧ ∃ N : Nat, ∀ n, N ≤ n → e < f n
theorem Psq.nul {f g : Nat → Rat} (h : Psq f) (k : Nul fun n => f n - g n) : Psq g := by
  obtain ⟨e, he, N, h⟩ := h
  obtain ⟨M, k⟩ := k (e / 2) (by grind)
  refine ⟨e / 2, by grind, max N M, fun n hn => ?_⟩
  have := h n (by omega)
  have := k n (by omega)
  grind
theorem Psq.not_nul {f : Nat → Rat} (h : Psq f) (k : Nul f) : False := by
  obtain ⟨e, he, N, h⟩ := h
  obtain ⟨M, k⟩ := k e he
  have := h (max N M) (by omega)
  have := k (max N M) (by omega)
  grind
theorem Psq.anti {f : Nat → Rat} (h : Psq f) (k : Psq fun n => - f n) : False := by
  obtain ⟨e, he, N, h⟩ := h
  obtain ⟨d, hd, M, k⟩ := k
  have := h (max N M) (by omega)
  have := k (max N M) (by omega)
  grind
theorem Psq.add {f g : Nat → Rat} (h : Psq f) (k : Psq g) : Psq fun n => f n + g n := by
  obtain ⟨e, he, N, h⟩ := h
  obtain ⟨d, hd, M, k⟩ := k
  refine ⟨e + d, by grind, max N M, fun n hn => ?_⟩
  have := h n (by omega)
  have := k n (by omega)
  grind
theorem Psq.mul {f g : Nat → Rat} (h : Psq f) (k : Psq g) : Psq fun n => f n * g n := by
  obtain ⟨e, he, N, h⟩ := h
  obtain ⟨d, hd, M, k⟩ := k
  refine ⟨e * d, Rat.mul_pos he hd, max N M, fun n hn => ?_⟩
  have a := h n (by omega)
  have b := k n (by omega)
  have := Rat.mul_pos (show 0 < f n - e by grind) (show 0 < g n by grind)
  have := Rat.mul_pos he (show 0 < g n - d by grind)
  grind
theorem tri {f : Nat → Rat} (h : Cau f) (k : ¬ Nul f) : Psq f ∨ Psq fun n => - f n := by
  have ⟨e, he, k⟩ : ∃ e : Rat, 0 < e ∧ ∀ N : Nat, ∃ n, N ≤ n ∧ ¬ (f n < e ∧ -e < f n) := by
    apply Classical.byContradiction
    intro z
    apply k
    intro e he
    apply Classical.byContradiction
    intro y
    refine z ⟨e, he, fun N => ?_⟩
    apply Classical.byContradiction
    intro x
    refine y ⟨N, fun n hn => ?_⟩
    apply Classical.byContradiction
    intro w
    exact x ⟨n, hn, w⟩
  obtain ⟨N, h⟩ := h (e / 2) (by grind)
  obtain ⟨n, hn, h2⟩ := k N
  by_cases h3 : f n < e
  · right
    refine ⟨e / 4, by grind, N, fun m hm => ?_⟩
    have := h m n hm hn
    have : ¬ (-e < f n) := fun z => h2 ⟨h3, z⟩
    grind
  · left
    refine ⟨e / 4, by grind, N, fun m hm => ?_⟩
    have := h n m hn hm
    grind
def RR.Pos : RR → Prop := Quotient.lift (fun x => Psq x.f) fun x y h => propext ⟨fun p => p.nul h, fun p => p.nul (by
  have := Nul.neg h
  have e : (fun n => -(x.f n - y.f n)) = fun n => y.f n - x.f n := by funext n; grind
  rwa [e] at this)⟩
theorem RR.pos_add {x y : RR} (h : x.Pos) (k : y.Pos) : (x + y).Pos := by
  induction x using Quotient.ind with | _ x => induction y using Quotient.ind with | _ y => exact Psq.add h k
theorem RR.pos_mul {x y : RR} (h : x.Pos) (k : y.Pos) : (x * y).Pos := by
  induction x using Quotient.ind with | _ x => induction y using Quotient.ind with | _ y => exact Psq.mul h k
theorem RR.pos_anti {x : RR} (h : x.Pos) (k : (-x).Pos) : False := by
  induction x using Quotient.ind with | _ x => exact Psq.anti h k
theorem RR.pos_tri (x : RR) : x.Pos ∨ x = 0 ∨ (-x).Pos := by
  revert x
  refine Quotient.ind fun x => ?_
  by_cases h : Nul x.f
  · refine .inr (.inl (Quotient.sound ?_))
    show Nul fun n => x.f n - ((0 : Nat) : Rat)
    have e : (fun n => x.f n - ((0 : Nat) : Rat)) = x.f := by funext n; grind
    rwa [e]
  · rcases tri x.h h with h | h
    · exact .inl h
    · exact .inr (.inr h)
theorem rq_pos {q : Rat} : (rq q).Pos ↔ 0 < q := by
  constructor
  · rintro ⟨e, he, N, h⟩
    have : e < q := h N (Nat.le_refl _)
    grind
  · intro h
    exact ⟨q / 2, by grind, 0, fun n _ => by show q / 2 < q; grind⟩
theorem RR.not_pos0 : ¬ (0 : RR).Pos := by
  intro h
  have := rq_pos.mp (show (rq ((0 : Nat) : Rat)).Pos from h)
  grind
instance : LT RR := ⟨fun x y => (y - x).Pos⟩
instance : LE RR := ⟨fun x y => ¬ (x - y).Pos⟩
theorem RR.lt_def {x y : RR} : x < y ↔ (y - x).Pos := Iff.rfl
theorem RR.le_def {x y : RR} : x ≤ y ↔ ¬ (x - y).Pos := Iff.rfl
instance : Std.IsLinearOrder RR where
  le_refl a := by
    rw [RR.le_def, show a - a = 0 by grind]
    exact RR.not_pos0
  le_trans a b c h1 h2 := by
    rw [RR.le_def] at *
    intro h
    rcases RR.pos_tri (a - b) with h3 | h3 | h3
    · exact h1 h3
    · apply h2
      have : a - c = b - c := by grind
      rwa [← this]
    · apply h2
      have := RR.pos_add h h3
      have e : a - c + -(a - b) = b - c := by grind
      rwa [e] at this
  le_antisymm a b h1 h2 := by
    rw [RR.le_def] at *
    rcases RR.pos_tri (a - b) with h3 | h3 | h3
    · exact absurd h3 h1
    · grind
    · exact absurd (by have e : -(a - b) = b - a := by grind
                       rwa [e] at h3) h2
  le_total a b := by
    by_cases h : (a - b).Pos
    · right
      intro k
      exact RR.pos_anti h (by have e : -(a - b) = b - a := by grind
                              rwa [e])
    · left; exact h
instance : Std.LawfulOrderLT RR where
  lt_iff a b := by
    rw [RR.le_def, RR.le_def, RR.lt_def]
    constructor
    · intro h
      exact ⟨fun k => RR.pos_anti h (by have e : -(b - a) = a - b := by grind
                                        rwa [e]), fun k => k h⟩
    · rintro ⟨_, h⟩
      exact Classical.not_not.mp h
theorem RR.lt_pos {x y : RR} : x < y ↔ 0 < y - x := by
  rw [RR.lt_def, RR.lt_def]
  have e : y - x - 0 = y - x := by grind
  rw [e]
instance : Lean.Grind.OrderedRing RR where
  add_le_left_iff {a b} c := by
    rw [RR.le_def, RR.le_def]
    have e : a + c - (b + c) = a - b := by grind
    rw [e]
  zero_lt_one := by
    rw [RR.lt_def]
    have e : (1 : RR) - 0 = rq ((1 : Nat) : Rat) := by
      show (1 : RR) - 0 = 1
      grind
    rw [e]
    exact rq_pos.mpr (by decide)
  mul_lt_mul_of_pos_left {a b c} h k := by
    rw [RR.lt_def] at *
    have e : c * b - c * a = (c - 0) * (b - a) := by grind
    rw [e]
    exact RR.pos_mul k h
  mul_lt_mul_of_pos_right {a b c} h k := by
    rw [RR.lt_def] at *
    have e : b * c - a * c = (b - a) * (c - 0) := by grind
    rw [e]
    exact RR.pos_mul h k
theorem rr_mul_pos {x y : RR} (h : 0 < x) (k : 0 < y) : 0 < x * y := by
  have := Lean.Grind.OrderedRing.mul_lt_mul_of_pos_left k h
  grind
theorem rr_mul_nn {x y : RR} (h : 0 ≤ x) (k : 0 ≤ y) : 0 ≤ x * y := by
  by_cases e : x = 0
  · subst e; grind
  by_cases d : y = 0
  · subst d; grind
  have := rr_mul_pos (show 0 < x by grind) (show 0 < y by grind)
  grind
theorem rr_sq (x : RR) : 0 ≤ x * x := by
  by_cases h : 0 ≤ x
  · exact rr_mul_nn h h
  · have := rr_mul_nn (show 0 ≤ -x by grind) (show 0 ≤ -x by grind)
    grind
theorem rq_lt {p q : Rat} : rq p < rq q ↔ p < q := by
  rw [RR.lt_def]
  have e : rq q - rq p = rq (q + -p) := by
    show rq q + - rq p = _
    rw [rq_neg, rq_add]
  rw [e, rq_pos]
  constructor <;> intro <;> grind
theorem rq_le {p q : Rat} : rq p ≤ rq q ↔ p ≤ q := by
  have := @rq_lt q p
  constructor
  · intro h
    apply Rat.not_lt.mp
    intro z
    have := rq_lt.mpr z
    grind
  · intro h
    by_cases z : rq q < rq p
    · have := rq_lt.mp z
      grind
    · grind
theorem rq_inj {p q : Rat} (h : rq p = rq q) : p = q := by
  have h1 := @rq_lt p q
  have h2 := @rq_lt q p
  rw [h] at h1 h2
  have h3 : ¬ (rq q < rq q) := by grind
  have : ¬ p < q := fun z => h3 (h1.mpr z)
  have : ¬ q < p := fun z => h3 (h2.mpr z)
  grind
/-- a fraction between two real numbers -/
theorem rr_btw {x y : RR} (hxy : x < y) : ∃ q : Rat, x < rq q ∧ rq q < y := by
  induction x using Quotient.ind with | _ x => ?_
  induction y using Quotient.ind with | _ y => ?_
  obtain ⟨e, he, N, h⟩ := hxy
  have h' : ∀ n, N ≤ n → e < y.f n - x.f n := fun n hn => by
    have := h n hn
    have e2 : (CS.add y x.neg).f n = y.f n - x.f n := by simp only [CS.add, CS.neg]; grind
    rwa [e2] at this
  obtain ⟨M, k⟩ := x.h (e / 4) (by grind)
  obtain ⟨L, l⟩ := y.h (e / 4) (by grind)
  let t := max N (max M L)
  refine ⟨x.f t + e / 2, ?_, ?_⟩
  · refine ⟨e / 8, by grind, t, fun n hn => ?_⟩
    show e / 8 < x.f t + e / 2 + - x.f n
    have := k n t (by omega) (by omega)
    grind
  · refine ⟨e / 8, by grind, t, fun n hn => ?_⟩
    show e / 8 < y.f n + - (x.f t + e / 2)
    have := l t n (by omega) (by omega)
    have := h' t (by omega)
    grind
/-- above every real number there is a whole one -/
theorem rr_arch (x : RR) : ∃ n : Nat, x < rq n := by
  revert x
  refine Quotient.ind fun x => ?_
  obtain ⟨B, b0, h⟩ := x.h.bd
  refine ⟨(B.ceil + 1).toNat, ?_⟩
  have h1 : B ≤ B.ceil := Rat.le_ceil
  have h2 : ((B.ceil + 1 : Int) : Rat) ≤ (((B.ceil + 1).toNat : Nat) : Rat) := by
    rw [← Rat.intCast_natCast]
    apply Rat.intCast_le_intCast.mpr
    omega
  have h3 : ((B.ceil + 1 : Int) : Rat) = (B.ceil : Rat) + 1 := by simp [Rat.intCast_add]
  refine ⟨1 / 2, by decide +kernel, 0, fun n _ => ?_⟩
  show 1 / 2 < (((B.ceil + 1).toNat : Nat) : Rat) + - x.f n
  have := h n
  grind
/-! ### square roots -/
def isq : Nat → Nat
  | 0 => 0
  | n + 1 => if (isq n + 1) * (isq n + 1) ≤ n + 1 then isq n + 1 else isq n
theorem isq_ok (n : Nat) : isq n * isq n ≤ n ∧ n < (isq n + 1) * (isq n + 1) := by
  induction n with
  | zero => decide
  | succ n ih =>
    unfold isq
    split
    · rename_i h
      refine ⟨h, ?_⟩
      have e : (isq n + 1 + 1) * (isq n + 1 + 1) = (isq n + 1) * (isq n + 1) + 2 * (isq n + 1) + 1 := by grind
      omega
    · omega
theorem sq_lt_of {a b : Nat} (h : a * a < b * b) : a < b := by
  apply Nat.lt_of_not_ge
  intro z
  have := Nat.mul_le_mul z z
  omega
def sqS (n k : Nat) : Rat := (isq (n * ((k + 1) * (k + 1))) : Rat) * (1 / ((k : Rat) + 1))
theorem tk_ok (k : Nat) : 0 < 1 / ((k : Rat) + 1) ∧ (1 / ((k : Rat) + 1)) * ((k : Rat) + 1) = 1 := by
  have h : (0 : Rat) ≤ (k : Rat) := by exact_mod_cast Nat.zero_le k
  have h2 : 1 / ((k : Rat) + 1) * ((k : Rat) + 1) = 1 := by grind
  refine ⟨?_, h2⟩
  apply Rat.not_le.mp
  intro z
  have := Rat.mul_nonneg (show 0 ≤ -(1 / ((k : Rat) + 1)) by grind) (show (0 : Rat) ≤ (k : Rat) + 1 by grind)
  grind
theorem sqS_lt (n m k : Nat) : sqS n m - sqS n k < 1 / ((k : Rat) + 1) := by
  have h1 := (isq_ok (n * ((m + 1) * (m + 1)))).1
  have h2 := (isq_ok (n * ((k + 1) * (k + 1)))).2
  unfold sqS
  generalize isq (n * ((m + 1) * (m + 1))) = a at *
  generalize isq (n * ((k + 1) * (k + 1))) = b at *
  have h3 : a * (k + 1) < (b + 1) * (m + 1) := by
    apply sq_lt_of
    have h4 := Nat.mul_le_mul_right ((k + 1) * (k + 1)) h1
    have h5 := Nat.mul_lt_mul_of_pos_right h2 (show 0 < (m + 1) * (m + 1) by exact Nat.mul_pos (by omega) (by omega))
    have e1 : a * (k + 1) * (a * (k + 1)) = a * a * ((k + 1) * (k + 1)) := by grind
    have e2 : (b + 1) * (m + 1) * ((b + 1) * (m + 1)) = (b + 1) * (b + 1) * ((m + 1) * (m + 1)) := by grind
    have e3 : n * ((m + 1) * (m + 1)) * ((k + 1) * (k + 1)) = n * ((k + 1) * (k + 1)) * ((m + 1) * (m + 1)) := by grind
    omega
  have h6 : (a : Rat) * ((k : Rat) + 1) < ((b : Rat) + 1) * ((m : Rat) + 1) := by exact_mod_cast h3
  obtain ⟨p1, q1⟩ := tk_ok k
  obtain ⟨p2, q2⟩ := tk_ok m
  generalize 1 / ((k : Rat) + 1) = t at *
  generalize 1 / ((m : Rat) + 1) = u at *
  have h7 := Rat.mul_pos (Rat.mul_pos p1 p2) (show 0 < ((b : Rat) + 1) * ((m : Rat) + 1) - (a : Rat) * ((k : Rat) + 1) by grind)
  have e : t * u * (((b : Rat) + 1) * ((m : Rat) + 1) - (a : Rat) * ((k : Rat) + 1)) = ((b : Rat) + 1) * t * (u * ((m : Rat) + 1)) - (a : Rat) * u * (t * ((k : Rat) + 1)) := by grind
  rw [e, q1, q2] at h7
  grind
theorem tk_small {e : Rat} (he : 0 < e) : ∃ N : Nat, ∀ k, N ≤ k → 1 / ((k : Rat) + 1) < e := by
  refine ⟨(1 / e).ceil.toNat, fun k hk => ?_⟩
  have h1 : 1 / e ≤ (1 / e).ceil := Rat.le_ceil
  have h2 : (((1 / e).ceil : Int) : Rat) ≤ ((k : Nat) : Rat) := by
    rw [← Rat.intCast_natCast]
    apply Rat.intCast_le_intCast.mpr
    omega
  obtain ⟨p1, q1⟩ := tk_ok k
  have h3 : e * (1 / e) = 1 := by grind
  generalize 1 / ((k : Rat) + 1) = t at *
  apply Rat.not_le.mp
  intro z
  have h4 := Rat.mul_nonneg (show 0 ≤ t - e by grind) (show (0 : Rat) ≤ (k : Rat) + 1 by
    have : (0 : Rat) ≤ (k : Rat) := by exact_mod_cast Nat.zero_le k
    grind)
  have h5 := Rat.mul_nonneg (Rat.le_of_lt he) (show 0 ≤ (k : Rat) - 1 / e by grind)
  grind
theorem sqS_cau (n : Nat) : Cau (sqS n) := by
  intro e he
  obtain ⟨N, h⟩ := tk_small he
  exact ⟨N, fun m k _ hk => by have := h k hk; have := sqS_lt n m k; grind⟩
def rsq (n : Nat) : RR := Quotient.mk rSet ⟨sqS n, sqS_cau n⟩
theorem sqS_nn (n k : Nat) : 0 ≤ sqS n k := by
  unfold sqS
  exact Rat.mul_nonneg (by exact_mod_cast Nat.zero_le _) (Rat.le_of_lt (tk_ok k).1)
theorem rsq_nn (n : Nat) : 0 ≤ rsq n := by
  rw [RR.le_def]
  rintro ⟨e, he, N, h⟩
  have h1 : e < ((0 : Nat) : Rat) + - sqS n N := h N (Nat.le_refl _)
  have := sqS_nn n N
  grind
theorem rsq_sq (n : Nat) : rsq n * rsq n = (n : RR) := by
  apply Quotient.sound
  show Nul fun k => sqS n k * sqS n k - (n : Rat)
  obtain ⟨B, b0, hB⟩ := (sqS_cau n).bd
  intro e he
  have hp : 0 < e / (2 * B + 1) ∧ (2 * B + 1) * (e / (2 * B + 1)) = e := by
    have h2 : (2 * B + 1) * (e / (2 * B + 1)) = e := by grind
    refine ⟨?_, h2⟩
    apply Rat.not_le.mp
    intro z
    have := Rat.mul_nonneg (show 0 ≤ 2 * B + 1 by grind) (show 0 ≤ -(e / (2 * B + 1)) by grind)
    grind
  obtain ⟨N, hN⟩ := tk_small hp.1
  refine ⟨N, fun k hk => ?_⟩
  have h0 := hN k hk
  obtain ⟨h1, h2⟩ := isq_ok (n * ((k + 1) * (k + 1)))
  have hb := (hB k).1
  unfold sqS at hb
  show sqS n k * sqS n k - (n : Rat) < e ∧ -e < sqS n k * sqS n k - (n : Rat)
  unfold sqS
  generalize isq (n * ((k + 1) * (k + 1))) = a at *
  have h3 : (a : Rat) * a ≤ n * (((k : Rat) + 1) * ((k : Rat) + 1)) := by exact_mod_cast h1
  have h4 : (n : Rat) * (((k : Rat) + 1) * ((k : Rat) + 1)) < ((a : Rat) + 1) * ((a : Rat) + 1) := by exact_mod_cast h2
  obtain ⟨p1, q1⟩ := tk_ok k
  have h00 : (0 : Rat) ≤ (k : Rat) := by exact_mod_cast Nat.zero_le k
  have h01 : (1 : Rat) ≤ (k : Rat) + 1 := by grind
  generalize (k : Rat) + 1 = z at *
  generalize 1 / z = t at *
  generalize e / (2 * B + 1) = d at *
  have k1 := Rat.mul_nonneg (Rat.le_of_lt (Rat.mul_pos p1 p1)) (show 0 ≤ n * (z * z) - (a : Rat) * a by grind)
  have k2 := Rat.mul_pos (Rat.mul_pos p1 p1) (show 0 < ((a : Rat) + 1) * ((a : Rat) + 1) - n * (z * z) by grind)
  have e1 : t * t * (n * (z * z) - (a : Rat) * a) = n * (t * z) * (t * z) - a * t * (a * t) := by grind
  have e2 : t * t * (((a : Rat) + 1) * ((a : Rat) + 1) - n * (z * z)) = a * t * (a * t) + 2 * (a * t) * t + t * t - n * (t * z) * (t * z) := by grind
  rw [e1, q1] at k1
  rw [e2, q1] at k2
  have t1 : t ≤ 1 := by
    have := Rat.mul_nonneg (Rat.le_of_lt p1) (show 0 ≤ z - 1 by grind)
    grind
  have k3 := Rat.mul_pos p1 (show 0 < B - a * t by grind)
  have k4 := Rat.mul_nonneg (Rat.le_of_lt p1) (show 0 ≤ 1 - t by grind)
  have k5 := Rat.mul_pos (show 0 < 2 * B + 1 by grind) (show 0 < d - t by grind)
  show (a : Rat) * t * ((a : Rat) * t) - n < e ∧ -e < (a : Rat) * t * ((a : Rat) * t) - n
  generalize (a : Rat) * t = w at *
  generalize (n : Rat) = v at *
  clear hN h1 h2 h3 h4 h00 h01 hB q1 e1 e2
  obtain ⟨_, q⟩ := hp
  constructor <;> grind
end
section
/-! ### the whole root -/
def isqI (n : Int) : Int := (isq n.toNat : Nat)
theorem isqI_ok {n : Int} (h : 0 ≤ n) : 0 ≤ isqI n ∧ isqI n * isqI n ≤ n ∧ n < (isqI n + 1) * (isqI n + 1) := by
  obtain ⟨h1, h2⟩ := isq_ok n.toNat
  unfold isqI
  generalize isq n.toNat = r at *
  have e : (n.toNat : Int) = n := Int.toNat_of_nonneg h
  refine ⟨by omega, ?_, ?_⟩
  · have : ((r * r : Nat) : Int) ≤ (n.toNat : Int) := Int.ofNat_le.mpr h1
    rw [e] at this
    simpa using this
  · have : ((n.toNat : Nat) : Int) < (((r + 1) * (r + 1) : Nat) : Int) := Int.ofNat_lt.mpr h2
    rw [e] at this
    simpa using this
theorem isqI_eq {n r : Int} (h : 0 ≤ n) (r0 : 0 ≤ r) (r1 : r * r ≤ n) (r2 : n < (r + 1) * (r + 1)) : r = isqI n := by
  obtain ⟨h0, h1, h2⟩ := isqI_ok h
  exact isq_unique r0 h0 r1 r2 h1 h2
theorem sq_self_le {r n : Int} (h0 : 0 ≤ r) (h : r * r ≤ n) : r ≤ n := by
  rcases (show r < 1 ∨ 1 ≤ r by omega) with z | z
  · have : r = 0 := by omega
    subst this
    omega
  · have := Int.mul_le_mul_of_nonneg_left z h0
    omega
/-! ### three whole numbers, nothing above 1 dividing all -/
structure T3 where
  a : Int
  b : Int
  c : Int
def T3.d (t : T3) : D := .tup [.int t.a, .int t.b, .int t.c]
def hd3 (a b c : Int) : Int := if a ≠ 0 then a else if b ≠ 0 then b else c
def g3 (a b c : Int) : Int := (Int.gcd (Int.gcd a b : Nat) c : Nat)
def dv3 (a b c : Int) : Int := if hd3 a b c < 0 then 0 - g3 a b c else g3 a b c
def nrm (a b c : Int) : T3 := ⟨a.fdiv (dv3 a b c), b.fdiv (dv3 a b c), c.fdiv (dv3 a b c)⟩
theorem g3_dvd (a b c : Int) : g3 a b c ∣ a ∧ g3 a b c ∣ b ∧ g3 a b c ∣ c := by
  unfold g3
  have d1 : ((Int.gcd (Int.gcd a b : Nat) c : Nat) : Int) ∣ ((Int.gcd a b : Nat) : Int) := Int.gcd_dvd_left _ _
  exact ⟨Int.dvd_trans d1 (Int.gcd_dvd_left a b), Int.dvd_trans d1 (Int.gcd_dvd_right a b), Int.gcd_dvd_right _ _⟩
theorem dv3_dvd (a b c : Int) : dv3 a b c ∣ a ∧ dv3 a b c ∣ b ∧ dv3 a b c ∣ c := by
  obtain ⟨h1, h2, h3⟩ := g3_dvd a b c
  unfold dv3
  split
  · rw [Int.zero_sub]
    exact ⟨Int.neg_dvd.mpr h1, Int.neg_dvd.mpr h2, Int.neg_dvd.mpr h3⟩
  · exact ⟨h1, h2, h3⟩
theorem hd3_ne {a b c : Int} (h : ¬ (a = 0 ∧ b = 0 ∧ c = 0)) : hd3 a b c ≠ 0 := by
  unfold hd3
  split
  · assumption
  · split
    · assumption
    · intro z; apply h; omega
theorem hd3_cases (a b c : Int) : hd3 a b c = a ∨ hd3 a b c = b ∨ hd3 a b c = c := by
  unfold hd3
  split
  · exact .inl rfl
  · split
    · exact .inr (.inl rfl)
    · exact .inr (.inr rfl)
theorem g3_pos {a b c : Int} (h : ¬ (a = 0 ∧ b = 0 ∧ c = 0)) : 0 < g3 a b c := by
  obtain ⟨h1, h2, h3⟩ := g3_dvd a b c
  have h0 : 0 ≤ g3 a b c := by unfold g3; omega
  rcases (show g3 a b c = 0 ∨ 0 < g3 a b c by omega) with z | z
  · rw [z] at h1 h2 h3
    exact absurd ⟨Int.zero_dvd.mp h1, Int.zero_dvd.mp h2, Int.zero_dvd.mp h3⟩ h
  · exact z
theorem dv3_ne {a b c : Int} (h : ¬ (a = 0 ∧ b = 0 ∧ c = 0)) : dv3 a b c ≠ 0 := by
  have := g3_pos h
  unfold dv3
  split <;> omega
theorem nrm_mul_dv (a b c : Int) : (nrm a b c).a * dv3 a b c = a ∧ (nrm a b c).b * dv3 a b c = b ∧ (nrm a b c).c * dv3 a b c = c := by
  obtain ⟨h1, h2, h3⟩ := dv3_dvd a b c
  exact ⟨Int.fdiv_mul_cancel h1, Int.fdiv_mul_cancel h2, Int.fdiv_mul_cancel h3⟩
theorem g3_mul {k : Int} (a b c : Int) : g3 (k * a) (k * b) (k * c) = (k.natAbs : Int) * g3 a b c := by
  unfold g3
  rw [Int.gcd_mul_left]
  have e : Int.gcd ((k.natAbs * Int.gcd a b : Nat) : Int) (k * c) = k.natAbs * Int.gcd ((Int.gcd a b : Nat) : Int) c := by
    unfold Int.gcd
    rw [Int.natAbs_mul]
    simp only [Int.natAbs_natCast]
    exact Nat.gcd_mul_left ..
  rw [e]
  simp
theorem hd3_mul {k : Int} (hk : k ≠ 0) (a b c : Int) : hd3 (k * a) (k * b) (k * c) = k * hd3 a b c := by
  unfold hd3
  by_cases h1 : a = 0
  · by_cases h2 : b = 0
    · simp [h1, h2]
    · have : k * b ≠ 0 := Int.mul_ne_zero hk h2
      simp [h1, h2, this]
  · have : k * a ≠ 0 := Int.mul_ne_zero hk h1
    simp [h1, this]
theorem dv3_mul {k : Int} (hk : k ≠ 0) {a b c : Int} (h : ¬ (a = 0 ∧ b = 0 ∧ c = 0)) : dv3 (k * a) (k * b) (k * c) = k * dv3 a b c := by
  have h0 := hd3_ne h
  unfold dv3
  rw [hd3_mul hk, g3_mul]
  generalize hd3 a b c = x at *
  generalize g3 a b c = g at *
  rcases (show k < 0 ∨ 0 < k by omega) with z | z
  · have e1 : (k.natAbs : Int) = -k := by omega
    rw [e1]
    rcases (show x < 0 ∨ 0 < x by omega) with w | w
    · have : ¬ k * x < 0 := by have := Int.mul_pos_of_neg_of_neg z w; omega
      rw [if_neg this, if_pos w]
      grind
    · have : k * x < 0 := Int.mul_neg_of_neg_of_pos z w
      rw [if_pos this, if_neg (by omega)]
      grind
  · have e1 : (k.natAbs : Int) = k := by omega
    rw [e1]
    rcases (show x < 0 ∨ 0 < x by omega) with w | w
    · have : k * x < 0 := Int.mul_neg_of_pos_of_neg z w
      rw [if_pos this, if_pos w]
      grind
    · have : ¬ k * x < 0 := by have := Int.mul_pos z w; omega
      rw [if_neg this, if_neg (by omega)]
theorem fdiv_same {k a d : Int} (hk : k ≠ 0) (hd : d ≠ 0) (h : d ∣ a) : (k * a).fdiv (k * d) = a.fdiv d := by
  obtain ⟨q, rfl⟩ := h
  rw [Int.mul_fdiv_cancel_left _ hd, ← Int.mul_assoc, Int.mul_fdiv_cancel_left _ (Int.mul_ne_zero hk hd)]
theorem nrm_mul {k : Int} (hk : k ≠ 0) {a b c : Int} (h : ¬ (a = 0 ∧ b = 0 ∧ c = 0)) : nrm (k * a) (k * b) (k * c) = nrm a b c := by
  obtain ⟨h1, h2, h3⟩ := dv3_dvd a b c
  have h0 := dv3_ne h
  unfold nrm
  rw [dv3_mul hk h, fdiv_same hk h0 h1, fdiv_same hk h0 h2, fdiv_same hk h0 h3]
theorem nrm_le {a b c : Int} (h : ¬ (a = 0 ∧ b = 0 ∧ c = 0)) : (nrm a b c).a.natAbs ≤ a.natAbs ∧ (nrm a b c).b.natAbs ≤ b.natAbs ∧ (nrm a b c).c.natAbs ≤ c.natAbs := by
  obtain ⟨h1, h2, h3⟩ := nrm_mul_dv a b c
  have h0 := dv3_ne h
  have le : ∀ u v d : Int, d ≠ 0 → u * d = v → u.natAbs ≤ v.natAbs := by
    intro u v d hd e
    rw [← e, Int.natAbs_mul]
    exact Nat.le_mul_of_pos_right _ (Int.natAbs_pos.mpr hd)
  exact ⟨le _ _ _ h0 h1, le _ _ _ h0 h2, le _ _ _ h0 h3⟩
theorem nrm_nz {a b c : Int} (h : ¬ (a = 0 ∧ b = 0 ∧ c = 0)) : ¬ ((nrm a b c).a = 0 ∧ (nrm a b c).b = 0 ∧ (nrm a b c).c = 0) := by
  obtain ⟨h1, h2, h3⟩ := nrm_mul_dv a b c
  rintro ⟨z1, z2, z3⟩
  rw [z1] at h1; rw [z2] at h2; rw [z3] at h3
  apply h
  refine ⟨by simpa using h1.symm, by simpa using h2.symm, by simpa using h3.symm⟩
theorem nrm_hd {a b c : Int} (h : ¬ (a = 0 ∧ b = 0 ∧ c = 0)) : 0 < hd3 (nrm a b c).a (nrm a b c).b (nrm a b c).c := by
  obtain ⟨h1, h2, h3⟩ := nrm_mul_dv a b c
  have h0 := dv3_ne h
  have hh := hd3_ne h
  have hg := g3_pos h
  have e : hd3 a b c = dv3 a b c * hd3 (nrm a b c).a (nrm a b c).b (nrm a b c).c := by
    rw [← hd3_mul h0]
    congr 1
    · rw [Int.mul_comm]; exact h1.symm
    · rw [Int.mul_comm]; exact h2.symm
    · rw [Int.mul_comm]; exact h3.symm
  generalize hd3 (nrm a b c).a (nrm a b c).b (nrm a b c).c = x at *
  unfold dv3 at e
  apply Int.lt_of_not_ge
  intro z
  split at e
  · have := Int.mul_nonneg_of_nonpos_of_nonpos (show 0 - g3 a b c ≤ 0 by omega) z
    omega
  · have := Int.mul_nonpos_of_nonneg_of_nonpos (show 0 ≤ g3 a b c by omega) z
    omega
theorem nrm_g3 {a b c : Int} (h : ¬ (a = 0 ∧ b = 0 ∧ c = 0)) : g3 (nrm a b c).a (nrm a b c).b (nrm a b c).c = 1 := by
  obtain ⟨h1, h2, h3⟩ := nrm_mul_dv a b c
  have hg := g3_pos h
  have e : g3 a b c = ((dv3 a b c).natAbs : Int) * g3 (nrm a b c).a (nrm a b c).b (nrm a b c).c := by
    rw [← g3_mul]
    congr 1
    · rw [Int.mul_comm]; exact h1.symm
    · rw [Int.mul_comm]; exact h2.symm
    · rw [Int.mul_comm]; exact h3.symm
  have e2 : ((dv3 a b c).natAbs : Int) = g3 a b c := by unfold dv3; split <;> omega
  rw [e2] at e
  have : g3 a b c * 1 = g3 a b c * g3 (nrm a b c).a (nrm a b c).b (nrm a b c).c := by omega
  exact (Int.eq_of_mul_eq_mul_left (by omega) this).symm
/-- the whole numbers of a curve -/
def scal (u : Cur) : T3 := ⟨u.a.1 * (u.b.2 * u.c.2), u.b.1 * (u.a.2 * u.c.2), u.c.1 * (u.a.2 * u.b.2)⟩
def wcur (u : Cur) : T3 := nrm (scal u).a (scal u).b (scal u).c
def Cur.nz (u : Cur) : Prop := ¬ (u.a.1 = 0 ∧ u.b.1 = 0 ∧ u.c.1 = 0)
theorem scal_nz {u : Cur} {n : Nat} (hu : u.Ok n) (h : u.nz) : ¬ ((scal u).a = 0 ∧ (scal u).b = 0 ∧ (scal u).c = 0) := by
  have a0 := hu.fa.ne
  have b0 := hu.fb.ne
  have c0 := hu.fc.ne
  rintro ⟨h1, h2, h3⟩
  apply h
  unfold scal at h1 h2 h3
  dsimp only at h1 h2 h3
  simp only [Int.mul_eq_zero] at h1 h2 h3
  simp_all
theorem found_nrm {u : Cur} {n : Nat} {e x y z : Int} (hu : u.Ok n) (h : u.nz) (he : e ≠ 0) (hx : u.a.2 * x = e) (hy : u.b.2 * y = e) (hz : u.c.2 * z = e) : nrm (u.a.1 * x) (u.b.1 * y) (u.c.1 * z) = wcur u := by
  have a0 := hu.fa.ne
  have b0 := hu.fb.ne
  have c0 := hu.fc.ne
  have k0 : u.a.2 * u.b.2 * u.c.2 ≠ 0 := Int.mul_ne_zero (Int.mul_ne_zero a0 b0) c0
  have n0 : ¬ (u.a.1 * x = 0 ∧ u.b.1 * y = 0 ∧ u.c.1 * z = 0) := by
    have x0 : x ≠ 0 := by intro w; rw [w] at hx; simp at hx; omega
    have y0 : y ≠ 0 := by intro w; rw [w] at hy; simp at hy; omega
    have z0 : z ≠ 0 := by intro w; rw [w] at hz; simp at hz; omega
    rintro ⟨h1, h2, h3⟩
    apply h
    simp only [Int.mul_eq_zero] at h1 h2 h3
    simp_all
  rw [← nrm_mul k0 n0]
  unfold wcur
  rw [← nrm_mul he (scal_nz hu h)]
  unfold scal
  dsimp only
  congr 1
  · rw [← hx]; grind
  · rw [← hy]; grind
  · rw [← hz]; grind
theorem wcur_bd {u : Cur} {n : Nat} (hu : u.Ok n) (h : u.nz) : Bd (3 * n) (wcur u).a ∧ Bd (3 * n) (wcur u).b ∧ Bd (3 * n) (wcur u).c := by
  obtain ⟨h1, h2, h3⟩ := nrm_le (scal_nz hu h)
  have l : n + (n + n) ≤ 3 * n := by omega
  exact ⟨((hu.ba.1.mul (hu.bb.2.mul hu.bc.2)).le h1).mono l, ((hu.bb.1.mul (hu.ba.2.mul hu.bc.2)).le h2).mono l, ((hu.bc.1.mul (hu.ba.2.mul hu.bb.2)).le h3).mono l⟩
theorem wcur_a {u : Cur} {n : Nat} (hu : u.Ok n) (h : u.nz) : 0 ≤ (wcur u).a := by
  have := nrm_hd (scal_nz hu h)
  unfold hd3 at this
  unfold wcur
  split at this
  · omega
  · rename_i z
    have : (nrm (scal u).a (scal u).b (scal u).c).a = 0 := Decidable.of_not_not z
    omega
/-- the roots of three whole numbers -/
def rtsT (t : T3) : List Mom :=
  if t.a = 0 ∧ t.b = 0 then [] else if t.a = 0 then [.q (low (0 - t.c) t.b)] else
  if t.b * t.b - 4 * t.a * t.c < 0 then [] else
  if isqI (t.b * t.b - 4 * t.a * t.c) * isqI (t.b * t.b - 4 * t.a * t.c) ≠ t.b * t.b - 4 * t.a * t.c then [.r t.a t.b t.c 0, .r t.a t.b t.c 1] else
  if 0 < isqI (t.b * t.b - 4 * t.a * t.c) then [.q (low (0 - t.b - isqI (t.b * t.b - 4 * t.a * t.c)) (2 * t.a)), .q (low (isqI (t.b * t.b - 4 * t.a * t.c) - t.b) (2 * t.a))] else [.q (low (0 - t.b - isqI (t.b * t.b - 4 * t.a * t.c)) (2 * t.a))]
def rts (u : Cur) : List Mom := rtsT (wcur u)
def momsD (ms : List Mom) : List D := ms.map Mom.d
/-- the least number that both divide -/
def lcI (x y : Int) : Int := (x * y).fdiv (Int.gcd x y : Nat)
theorem lcI_ok {x y : Int} (hx : 0 < x) (hy : 0 < y) : 0 < lcI x y ∧ x ∣ lcI x y ∧ y ∣ lcI x y ∧ (lcI x y).natAbs ≤ (x * y).natAbs := by
  have g0 : Int.gcd x y ≠ 0 := gcd_ne (by omega)
  obtain ⟨p, hp⟩ := Int.gcd_dvd_left x y
  obtain ⟨q, hq⟩ := Int.gcd_dvd_right x y
  have e1 : x * y = (Int.gcd x y : Nat) * (p * y) := by rw [← Int.mul_assoc, ← hp]
  have e2 : x * y = (Int.gcd x y : Nat) * (q * x) := by rw [← Int.mul_assoc, ← hq, Int.mul_comm]
  have e3 : lcI x y = p * y := by unfold lcI; rw [e1]; exact Int.mul_fdiv_cancel_left _ (by omega)
  have e4 : lcI x y = q * x := by unfold lcI; rw [e2]; exact Int.mul_fdiv_cancel_left _ (by omega)
  have p0 : 0 < p := by
    apply Int.lt_of_not_ge
    intro z
    have := Int.mul_nonpos_of_nonneg_of_nonpos (show (0 : Int) ≤ (Int.gcd x y : Nat) by omega) z
    rw [← hp] at this
    omega
  refine ⟨by rw [e3]; exact Int.mul_pos p0 hy, ⟨q, by rw [e4]; exact Int.mul_comm ..⟩, ⟨p, by rw [e3]; exact Int.mul_comm ..⟩, ?_⟩
  rw [e1, e3, Int.natAbs_mul ((Int.gcd x y : Nat) : Int) (p * y), Int.natAbs_natCast]
  exact Nat.le_mul_of_pos_left _ (Nat.pos_of_ne_zero g0)
theorem gcd_bdL {n : Nat} {x y : Int} (hx : x ≠ 0) (h : Bd n x) : Bd n (Int.gcd x y : Nat) := by
  refine h.le ?_
  have := gcd_le_abs (a := y) hx
  rw [Int.gcd_comm] at this
  simpa using this
theorem gcd_bdR {n : Nat} {x y : Int} (hx : y ≠ 0) (h : Bd n y) : Bd n (Int.gcd x y : Nat) := by
  refine h.le ?_
  have := gcd_le_abs (a := x) hx
  simpa using this
theorem dvd_fdiv {d e : Int} (h : d ∣ e) : d * e.fdiv d = e := by rw [Int.mul_comm]; exact Int.fdiv_mul_cancel h
theorem g3_bd {n : Nat} {a b c : Int} (h : ¬ (a = 0 ∧ b = 0 ∧ c = 0)) (ha : Bd n a) (hb : Bd n b) (hc : Bd n c) : Bd n (g3 a b c) := by
  obtain ⟨h1, h2, h3⟩ := g3_dvd a b c
  have gp := g3_pos h
  have le : ∀ v : Int, v ≠ 0 → g3 a b c ∣ v → (g3 a b c).natAbs ≤ v.natAbs := fun v hv hd => Nat.le_of_dvd (Int.natAbs_pos.mpr hv) (Int.natAbs_dvd_natAbs.mpr hd)
  by_cases z1 : a = 0
  · by_cases z2 : b = 0
    · have z3 : c ≠ 0 := fun z => h ⟨z1, z2, z⟩
      exact hc.le (le _ z3 h3)
    · exact hb.le (le _ z2 h2)
  · exact ha.le (le _ z1 h1)
/-! ### curves against curves -/
instance : DecidableEq Cur := fun u v => decidable_of_iff (u.a = v.a ∧ u.b = v.b ∧ u.c = v.c) (by cases u; cases v; simp)
def uz : Cur := ⟨(0, 1), (0, 1), (0, 1)⟩
theorem fit_cur {u : Cur} : fitD 60 u.d = true := by simp [Cur.d, fr, fitD, fitDs]
theorem cur_inj {u v : Cur} : u.d = v.d ↔ u = v := by cases u; cases v; simp [Cur.d, fr_inj]
theorem r_eqC {u v : Cur} {μ : Mu} {P : DK} : qEq u.d v.d μ P = P (.bl (decide (u = v))) μ := by
  rw [r_eqD fit_cur fit_cur, deq_of (by simp [Cur.d, fr, simD, simDs]) cur_inj]
theorem r_neC {u v : Cur} {μ : Mu} {P : DK} : qNe u.d v.d μ P = P (.bl (decide (¬ u = v))) μ := by
  rw [r_neD fit_cur fit_cur, deq_of (by simp [Cur.d, fr, simD, simDs]) cur_inj, not_dec]
theorem fr_nought {q : Int × Int} (hq : Fr q) (h0 : q.1 = 0) : q = (0, 1) := by
  have := hq.2
  rw [h0, Int.gcd_comm, Int.gcd_zero] at this
  have := hq.1
  obtain ⟨x, y⟩ := q
  simp at h0 this ⊢
  omega
theorem uz_iff {u : Cur} {n : Nat} (hu : u.Ok n) : u = uz ↔ ¬ u.nz := by
  constructor
  · intro e h
    rw [e] at h
    exact h ⟨rfl, rfl, rfl⟩
  · intro z
    have z1 := Decidable.of_not_not z
    obtain ⟨a, b, c⟩ := u
    have ea := fr_nought hu.fa z1.1
    have eb := fr_nought hu.fb z1.2.1
    have ec := fr_nought hu.fc z1.2.2
    dsimp only at ea eb ec
    unfold uz
    rw [ea, eb, ec]
theorem uz_ok {n : Nat} (h : 1 ≤ n) : uz.Ok n := ⟨fr01, fr01, fr01, ⟨(show Bd 1 0 by decide).mono h, (show Bd 1 1 by decide).mono h⟩, ⟨(show Bd 1 0 by decide).mono h, (show Bd 1 1 by decide).mono h⟩, ⟨(show Bd 1 0 by decide).mono h, (show Bd 1 1 by decide).mono h⟩⟩
/-! ### the roots reckoned from a curve's own whole numbers -/
/-- the roots of three whole numbers, the first above nought -/
def due3 (a b c : Int) : List Mom :=
  if b * b - 4 * a * c < 0 then [] else
  if isqI (b * b - 4 * a * c) * isqI (b * b - 4 * a * c) ≠ b * b - 4 * a * c then [.r (a.fdiv (g3 a b c)) (b.fdiv (g3 a b c)) (c.fdiv (g3 a b c)) 0, .r (a.fdiv (g3 a b c)) (b.fdiv (g3 a b c)) (c.fdiv (g3 a b c)) 1] else
  if 0 < isqI (b * b - 4 * a * c) then [.q (low (0 - b - isqI (b * b - 4 * a * c)) (2 * a)), .q (low (isqI (b * b - 4 * a * c) - b) (2 * a))] else [.q (low (0 - b - isqI (b * b - 4 * a * c)) (2 * a))]
theorem low_scale {k a b : Int} (hk : k ≠ 0) (hb : b ≠ 0) : low (k * a) (k * b) = low a b :=
  low_eq (Int.mul_ne_zero hk hb) hb (by grind)
theorem sq_of_sq {g r d : Int} (hg : 0 < g) (e : r * r = g * g * d) : ∃ s, r = g * s ∧ s * s = d := by
  have h1 : g * g ∣ r * r := ⟨d, e⟩
  have h2 : g.natAbs * g.natAbs ∣ r.natAbs * r.natAbs := by
    have := Int.natAbs_dvd_natAbs.mpr h1
    rwa [Int.natAbs_mul, Int.natAbs_mul] at this
  have h3 : g.natAbs ∣ r.natAbs := by
    rw [← Nat.pow_two, ← Nat.pow_two] at h2
    exact (Nat.pow_dvd_pow_iff (by decide)).mp h2
  obtain ⟨s, hs⟩ := Int.natAbs_dvd_natAbs.mp h3
  refine ⟨s, hs, ?_⟩
  rw [hs] at e
  have : g * g * (s * s) = g * g * d := by rw [← e]; grind
  exact Int.eq_of_mul_eq_mul_left (Int.mul_ne_zero (by omega) (by omega)) this
theorem isqI_scale {g d : Int} (hg : 0 < g) (h : isqI d * isqI d = d) (d0 : 0 ≤ d) : isqI (g * g * d) = g * isqI d := by
  obtain ⟨r0, _, _⟩ := isqI_ok d0
  have n0 : 0 ≤ g * g * d := Int.mul_nonneg (Int.mul_nonneg (by omega) (by omega)) d0
  have e : g * isqI d * (g * isqI d) = g * g * d := by
    have : g * isqI d * (g * isqI d) = g * g * (isqI d * isqI d) := by grind
    rw [this, h]
  have p0 : 0 ≤ g * isqI d := Int.mul_nonneg (by omega) r0
  refine (isqI_eq n0 p0 (by omega) ?_).symm
  have : (g * isqI d + 1) * (g * isqI d + 1) = g * isqI d * (g * isqI d) + 2 * (g * isqI d) + 1 := by grind
  omega
theorem due3_ok {a b c : Int} (ha : 0 < a) : rtsT (nrm a b c) = due3 a b c := by
  have nz : ¬ (a = 0 ∧ b = 0 ∧ c = 0) := fun z => by omega
  have gp := g3_pos nz
  have ed : dv3 a b c = g3 a b c := by
    have e : hd3 a b c = a := by
      unfold hd3
      rw [if_pos (show a ≠ 0 by omega)]
    unfold dv3
    rw [e, if_neg (show ¬ a < 0 by omega)]
  obtain ⟨h1, h2, h3⟩ := nrm_mul_dv a b c
  have ea : (nrm a b c).a = a.fdiv (g3 a b c) := by unfold nrm; rw [ed]
  have eb : (nrm a b c).b = b.fdiv (g3 a b c) := by unfold nrm; rw [ed]
  have ec : (nrm a b c).c = c.fdiv (g3 a b c) := by unfold nrm; rw [ed]
  rw [ed] at h1 h2 h3
  unfold rtsT due3
  rw [← ea, ← eb, ← ec]
  generalize nrm a b c = t at *
  generalize g3 a b c = g at *
  obtain ⟨x, y, z⟩ := t
  dsimp only at *
  clear ea eb ec ed
  have x0 : 0 < x := by
    apply Int.lt_of_not_ge
    intro w
    have := Int.mul_nonpos_of_nonpos_of_nonneg w (Int.le_of_lt gp)
    omega
  have eD : b * b - 4 * a * c = g * g * (y * y - 4 * x * z) := by rw [← h1, ← h2, ← h3]; grind
  rw [eD]
  generalize hD : y * y - 4 * x * z = d at *
  have gg : 0 < g * g := Int.mul_pos gp gp
  rw [if_neg (show ¬ (x = 0 ∧ y = 0) from fun w => by have := w.1; omega), if_neg (show ¬ x = 0 by omega)]
  by_cases hd : d < 0
  · have : g * g * d < 0 := Int.mul_neg_of_pos_of_neg gg hd
    rw [if_pos hd, if_pos this]
  · have d0 : 0 ≤ d := by omega
    have n0 : 0 ≤ g * g * d := Int.mul_nonneg (by omega) d0
    rw [if_neg hd, if_neg (show ¬ g * g * d < 0 by omega)]
    by_cases hs : isqI d * isqI d = d
    · have e1 := isqI_scale gp hs d0
      have e2 : isqI (g * g * d) * isqI (g * g * d) = g * g * d := by
        rw [e1]
        have : g * isqI d * (g * isqI d) = g * g * (isqI d * isqI d) := by grind
        rw [this, hs]
      rw [if_neg (show ¬ (isqI d * isqI d ≠ d) from fun w => w hs), if_neg (show ¬ (isqI (g * g * d) * isqI (g * g * d) ≠ g * g * d) from fun w => w e2), e1]
      have l1 : low (0 - b - g * isqI d) (2 * a) = low (0 - y - isqI d) (2 * x) := by
        have q := low_scale (k := g) (a := 0 - y - isqI d) (b := 2 * x) (by omega) (by omega)
        rw [← q, ← h1, ← h2]
        congr 1 <;> grind
      have l2 : low (g * isqI d - b) (2 * a) = low (isqI d - y) (2 * x) := by
        have q := low_scale (k := g) (a := isqI d - y) (b := 2 * x) (by omega) (by omega)
        rw [← q, ← h1, ← h2]
        congr 1 <;> grind
      obtain ⟨r0, _, _⟩ := isqI_ok d0
      rw [l1, l2]
      by_cases hr : 0 < isqI d
      · rw [if_pos hr, if_pos (Int.mul_pos gp hr)]
      · have : isqI d = 0 := by omega
        rw [this]
        simp
    · have e2 : ¬ isqI (g * g * d) * isqI (g * g * d) = g * g * d := by
        intro e
        obtain ⟨s, es, hs2⟩ := sq_of_sq gp e
        obtain ⟨r0, _, _⟩ := isqI_ok n0
        have s0 : 0 ≤ s := by
          apply Int.le_of_not_gt
          intro w
          have := Int.mul_neg_of_pos_of_neg gp w
          omega
        have : s = isqI d := isqI_eq d0 s0 (by omega) (by
          have : (s + 1) * (s + 1) = s * s + 2 * s + 1 := by grind
          omega)
        rw [this] at hs2
        exact hs hs2
      rw [if_pos hs, if_pos e2]
theorem rtsT_a0 {b c : Int} (hb : b ≠ 0) : rtsT (nrm 0 b c) = [.q (low (0 - c) b)] := by
  have nz : ¬ ((0 : Int) = 0 ∧ b = 0 ∧ c = 0) := fun z => hb z.2.1
  obtain ⟨h1, h2, h3⟩ := nrm_mul_dv 0 b c
  have d0 := dv3_ne nz
  unfold rtsT
  generalize nrm 0 b c = t at *
  generalize dv3 0 b c = d at *
  obtain ⟨x, y, z⟩ := t
  dsimp only at *
  have x0 : x = 0 := by
    rcases Int.mul_eq_zero.mp h1 with w | w
    · exact w
    · exact absurd w d0
  have y0 : y ≠ 0 := by intro w; rw [w, Int.zero_mul] at h2; exact hb h2.symm
  rw [if_neg (fun w => y0 w.2), if_pos x0, ← h2, ← h3]
  have : low (0 - z * d) (y * d) = low (d * (0 - z)) (d * y) := by congr 1 <;> grind
  rw [this, low_scale d0 y0]
theorem rtsT_00 {c : Int} (hc : c ≠ 0) : rtsT (nrm 0 0 c) = [] := by
  have nz : ¬ ((0 : Int) = 0 ∧ (0 : Int) = 0 ∧ c = 0) := fun z => hc z.2.2
  obtain ⟨h1, h2, h3⟩ := nrm_mul_dv 0 0 c
  have d0 := dv3_ne nz
  unfold rtsT
  have x0 : (nrm 0 0 c).a = 0 := by
    rcases Int.mul_eq_zero.mp h1 with w | w
    · exact w
    · exact absurd w d0
  have y0 : (nrm 0 0 c).b = 0 := by
    rcases Int.mul_eq_zero.mp h2 with w | w
    · exact w
    · exact absurd w d0
  rw [if_pos ⟨x0, y0⟩]
theorem nrm_neg {a b c : Int} (h : ¬ (a = 0 ∧ b = 0 ∧ c = 0)) : nrm (0 - a) (0 - b) (0 - c) = nrm a b c := by
  have := nrm_mul (k := -1) (by decide) h
  rw [← this]
  congr 1 <;> omega
/-- what roots tells are moments of some size -/
theorem rts_ok {u : Cur} {n : Nat} (hu : u.Ok n) (h : u.nz) : ∀ m ∈ rts u, m.Ok (6 * n + 8) := by
  have ha := wcur_a hu h
  obtain ⟨ba, bb, bc⟩ := wcur_bd hu h
  unfold rts rtsT
  generalize wcur u = t at *
  obtain ⟨a, b, c⟩ := t
  dsimp only at *
  intro m hm
  split at hm
  · cases hm
  · rename_i h1
    split at hm
    · rename_i h2
      have hb : b ≠ 0 := fun z => h1 ⟨h2, z⟩
      rw [List.mem_singleton] at hm
      subst hm
      exact low_ok hb ((bc.le (by omega)).mono (by omega)) (bb.mono (by omega))
    · rename_i h2
      have a0 : 0 < a := by omega
      have bd := ((bb.mul bb).sub (((show Bd 3 4 by decide).mul ba).mul bc)).mono (show _ ≤ 6 * n + 4 by omega)
      split at hm
      · cases hm
      · rename_i h3
        have d0 : 0 ≤ b * b - 4 * a * c := by omega
        obtain ⟨r0, r1, _⟩ := isqI_ok d0
        have br : Bd (6 * n + 4) (isqI (b * b - 4 * a * c)) := bd.le (by have := sq_self_le r0 r1; omega)
        split at hm
        · simp only [List.mem_cons, List.not_mem_nil, or_false] at hm
          rcases hm with rfl | rfl
          · exact ⟨a0, ba.mono (by omega), bb.mono (by omega), bc.mono (by omega), .inl rfl⟩
          · exact ⟨a0, ba.mono (by omega), bb.mono (by omega), bc.mono (by omega), .inr rfl⟩
        · have b2 := ((show Bd 2 2 by decide).mul ba).mono (show _ ≤ 6 * n + 8 by omega)
          have b0 : Bd (6 * n + 8) (0 - b - isqI (b * b - 4 * a * c)) := (((show Bd 1 0 by decide).sub bb).sub br).mono (by omega)
          have b1 : Bd (6 * n + 8) (isqI (b * b - 4 * a * c) - b) := (br.sub bb).mono (by omega)
          split at hm
          · simp only [List.mem_cons, List.not_mem_nil, or_false] at hm
            rcases hm with rfl | rfl
            · exact low_ok (by omega) b0 b2
            · exact low_ok (by omega) b1 b2
          · rw [List.mem_singleton] at hm
            subst hm
            exact low_ok (by omega) b0 b2
theorem rts_len {u : Cur} : (rts u).length ≤ 2 := by
  unfold rts rtsT
  repeat' split
  all_goals simp
end
section
/-! ### str of data -/
def rStr (K : PySem.W.Frag) : List V → Hp → VK → Prop := fun xs H Q => ∃ (v : V) (p : PyData), xs = [v] ∧ (∃ a, v = .ref a) ∧ Dp K H v p ∧ PyData.canLay0 p = true ∧ PyData.showable p = true ∧ p.depth ≤ 64 ∧ p.shown.length ≤ sizeLine ∧ Q (.str p.shown) H
theorem cr_str {X : Cx} {j : Nat} (hr : Room j X.A) (hg : X.A.guards = some []) : CallR X (.type "str") (rStr X.K) := by
  intro pins s σ H xs us Q I r h
  obtain ⟨v, p, rfl, ⟨a, rfl⟩, hd, h1, h2, h3, h4, q⟩ := h
  obtain ⟨u, rfl, ru⟩ := vals1 r
  obtain ⟨as, rd⟩ := Dp.reads I p _ u hd ru
  have eu : u = .ref a := ru
  subst eu
  have hu := hr.un
  exact str_of_reads rd h2 (fun z => by rw [PyData.hasDict_of_canLay p h1] at z; cases z) hg (by omega) (fun _ _ e => e) (fun h' t tk hk => ⟨.str _, H, I.kept hk, ⟨t, rfl⟩, q⟩) h4
def isRefD : D → Bool
  | .tup _ => true
  | .lst _ => true
  | .ro _ => true
  | .ref _ => true
  | _ => false
def qStr (xs : List D) (μ : Mu) (P : DK) : Prop := ∃ (x : D) (p : PyData), xs = [x] ∧ isRefD x = true ∧ pyM μ x = some p ∧ PyData.canLay0 p = true ∧ PyData.showable p = true ∧ p.depth ≤ 64 ∧ p.shown.length ≤ sizeLine ∧ P (.str p.shown) μ
theorem oc_str {K : PySem.W.Frag} : OC K (rStr K) qStr := by
  intro T F H μ xs vs P Q c rs q k
  obtain ⟨x, p, rfl, hx, hp, h1, h2, h3, h4, q⟩ := q
  obtain ⟨v, rfl, r⟩ := reps1 rs
  refine ⟨v, p, rfl, ?_, dpM_of c r hp, h1, h2, h3, h4, k _ _ _ _ _ .refl c mk_str q⟩
  cases x with
  | tup _ => obtain ⟨a, _, e, _⟩ := rep_tup r; exact ⟨a, e⟩
  | lst _ => obtain ⟨a, _, e, _⟩ := rep_lst r; exact ⟨a, e⟩
  | ro _ => obtain ⟨a, _, e, _⟩ := rep_ro r; exact ⟨a, e⟩
  | ref a => exact ⟨a, rep_ref r⟩
  | _ => cases hx
theorem pd_str1 {X : Cx} {W : WX} {PX : DX} {a : Expr} {tas : TA} {fas : DA} {pos p : Pos} {j : Nat} (hr : Room j X.A) (hgd : X.A.guards = some []) (hg : Gl X "str") (hm : X.mg "str" = none) (ha : PDA X W PX [a] tas fas) (he : starEach [a] X.env = (false, eval a X.env) :: starEach [] X.env := by rfl) (hpl : (backTo pos (starEach [] X.env)).any (·.1) = false := by rfl) :
    PD X W PX (.Call (.Name "str" p) [a] [] pos) (tCB (rStr X.K) tas) (dCB qStr fas) := pd_typ (cr_str hr hgd) oc_str hg hm (by decide +kernel) ha (he := he) (hpl := hpl)
/-! ### the law's def, called from outside: nothing is being shown -/
structure FnTop (P : Program) (w : World) (K : PySem.W.Frag) (mg : Str → Option Value) (base : Heap) (CX : CXT) (k : Nat) (f : Addr) (fd : FuncData) (ps : List Str) (sp : Sp) : Prop where
  ln : ∀ vs H Q E, sp vs H Q E → vs.length = ps.length
  go : ∀ (A : Around) (outer : List Env) (s : Shared) (H : Hp) (args : Args) (us : List Value) (vs : List V) (Q : VK) (E : XK), A.guards = some [] → Room k A → Env0 P w K mg base A outer s H → BindsTo s fd args (ps.zip us) → Vals vs us → sp vs H Q E →
    codeAny (model P w) A (.call (.ref f) args) (CR CX outer P w H s Q E) s
section
variable {P : Program} {w : World} {K : PySem.W.Frag} {mg : Str → Option Value} {base : Heap}
theorem top_of {CX : CXT} {k : Nat} {f : Addr} {x qual : Str} {st : Stmt} {fd : FuncData} {N ps : List Str} {sp : Sp} (F : Fun K x qual st f fd) (S : FnScope N ps (defScope st)) (ln : ∀ vs H Q E, sp vs H Q E → vs.length = ps.length)
    (hb : ∀ (cdv : Value) (A : Around) (outer : List Env) (s : Shared) (H : Hp) (vs : List V) (Q : VK) (E : XK), A.guards = some [] → Room k (A.deeper (envOfC qual (defScope st) s.heap.objs.size f cdv)) → sp vs H Q E →
      ∃ t, PSs (cxOf CX P w K mg base N qual (defScope st) f cdv A outer s H E) (defBody st) t ∧ t { nx := fun _ H' => Q .non H', rt := Q } (L2.start N vs) H) : FnTop P w K mg base CX (k + 1) f fd ps sp := by
  obtain ⟨oc, od, kV, doc, pm, an, cdv, ct, osl, rfl, lk, hcd⟩ := F.ex
  refine ⟨ln, fun A outer s H args us vs Q E gd room en bd rv prom => ?_⟩
  have inK := en.mod.kin.keeps fun b o e => (en.bs b o e).1
  have noLim := en.mod.nolimit.keeps fun b o e => (en.bs b o e).1
  have kinds : ∀ y ∈ ps.zip us, (defScope st).names.lookup y.1 = some .local ∨ ((defScope st).names.lookup y.1 = some .cell ∧ ((cellsFrom (s.heap.objs.size + 1) (defScope st).names []).lookup y.1).isSome = true) := by
    rintro ⟨n, v⟩ hy
    have hn := (List.of_mem_zip hy).1
    cases S.par n hn with
    | inl q => exact .inl q
    | inr q => exact .inr ⟨q, PySem.W.cellsFrom_some _ _ _ (.inl q)⟩
  refine codeAny_call_function room.depth (inK _ _ lk) rfl S.co S.gen rfl (PySem.W.codeRec_of inK hcd) (bd _ _ _ _ (wpAny_newFunctionEnv_cells S.kind kinds ?_))
  rintro env rfl s1 ic
  refine ⟨noLim.keeps ic.toInCall.keep, codeAny_func ?_⟩
  obtain ⟨t, der, rd⟩ := hb cdv A outer s H vs Q E gd (room.deeper _) prom
  have I0 : Inv (cxOf CX P w K mg base N qual (defScope st) f cdv A outer s H E) [] (L2.start N vs) H s1 := inv_start S room.hd en (ln _ _ _ _ prom) rv ic
  refine wpAny_mono (der.run [] s1 (L2.start N vs) H _ I0 rd) (fun flow s' got => ?_) fun _ _ z => z
  have leave : ∀ {σ' : L2.St} {H' : Hp} {v : V} {u : Value}, Inv (cxOf CX P w K mg base N qual (defScope st) f cdv A outer s H E) [] σ' H' s' → RelV v u → Q v H' → CE outer P w H s Q u s' := fun {σ' H' v u} J r q => ⟨v, H', J.os, J.bare, J.base, J.hok, r, q⟩
  cases flow with
  | next => obtain ⟨σ', H', J, q⟩ := got; exact leave (v := V.non) (u := Value.none) J rfl q
  | ret u => obtain ⟨v, σ', H', J, r, q⟩ := got; exact leave J r q
  | brk => obtain ⟨_, _, _, z⟩ := got; exact z.elim
  | cont => obtain ⟨_, _, _, z⟩ := got; exact z.elim
theorem top_D {x qual : Str} {st : Stmt} {f : Addr} {fd : FuncData} {N ps : List Str} {k : Nat} {sp : DSp} {g : DX → DS} (F : Fun K x qual st f fd) (S : FnScope N ps (defScope st)) (len : ∀ ds μ Q PX, sp ds μ Q PX → ds.length = ps.length)
    (hN : ps.length ≤ N.length)
    (hb : ∀ (cdv : Value) (A : Around) (outer : List Env) (s : Shared) (H : Hp) (E : XK) (PX : DX), A.guards = some [] → Room k (A.deeper (envOfC qual (defScope st) s.heap.objs.size f cdv)) →
      Takes (cxOf (L2.CX P w) P w K mg base N qual (defScope st) f cdv A outer s H E) (fun cls d _ H => E cls d H) →
      PassesOwn (model P w) (A.deeper (envOfC qual (defScope st) s.heap.objs.size f cdv)) (envOfC qual (defScope st) s.heap.objs.size f cdv) (cxOf (L2.CX P w) P w K mg base N qual (defScope st) f cdv A outer s H E).xe →
      ∃ t, SSD (cxOf (L2.CX P w) P w K mg base N qual (defScope st) f cdv A outer s H E) (fun cls d _ H => E cls d H) PX (defBody st) t (g PX))
    (hg : ∀ ds μ Q PX, sp ds μ Q PX → g (fun _ cls x μ => PX cls x μ) { nx := fun _ μ => Q .non μ, rt := Q } (startD N.length ds) μ) : FnTop P w K mg base (L2.CX P w) (k + 1) f fd ps (spD K sp) := by
  refine top_of F S (fun vs H Q E h => ?_) (fun cdv A outer s H vs Q E gd hr h => ?_)
  · obtain ⟨F, μ, ds, P, PX, c, r, h, _⟩ := h
    rw [← r.length]
    exact len _ _ _ _ h
  · obtain ⟨F, μ, ds, Pq, PX, c, r, h, k1, k2⟩ := h
    obtain ⟨t, D⟩ := hb cdv A outer s H E (fun _ cls x μ => PX cls x μ) gd hr (takes_of rfl rfl rfl rfl) (passes_of rfl)
    refine ⟨t, D.pe, ?_⟩
    have hl := len _ _ _ _ h
    have R : ROk K ⟨F, μ, H⟩ (startD N.length ds) μ (L2.start N vs) F H := by
      refine ⟨c, ?_, fun i d e => startD_at N.length ds vs i d r (by omega) e⟩
      rw [startD_len]
      unfold L2.start
      rw [List.length_append, List.length_map, List.length_replicate, ← r.length]
      omega
    refine D.he ⟨F, μ, H⟩ (fun ρ μ' σ F' H' cls dx x R' xr px => k2 cls dx x μ' F' H' R'.c.gr R'.c xr px) _ F H _ μ _ _ R (hg ds μ Pq PX h) ⟨?_, ?_, ?_, ?_⟩
    · intro ρ' μ' σ' F' H' g' R' q
      exact k1 .non .non μ' F' H' g' R'.c mk_non q
    · intro d v μ' F' H' g' c' r' q
      exact k1 d v μ' F' H' g' c' r' q
    · intro _ _ _ _ _ _ _ q
      exact q.elim
    · intro _ _ _ _ _ _ _ q
      exact q.elim
end
section
variable {P : Program} {w : World} {K : PySem.W.Frag} {mg mb : Str → Option Value} {CX : CXT} {k : Nat} {fa a : Addr} {fd : FuncData} {x : Str} {sp : Sp} {s : Shared} {vs : List Value} {ns : List Int}
/-- the object of the script -/
def scrO (vs : List Value) : Obj := { cls := .type "list", data := .seq vs.toArray }
theorem top_core (kin : K.In s.heap) (hns : s.heap.Ns mainGlobals mg) (hb : s.heap.Ns builtinsNs mb) (hbb : ∀ x : Str, x ≠ "__name__" → mb x = bootBuiltins x) (hlim : s.heap.NoLimit) (gens : s.gens = #[])
    (ha : s.heap.get? a = some (scrO vs)) (room : Room k callerA)
    (F : ∀ base : Heap, K.In base → base.Ns mainGlobals mg → FnTop P w K mg base CX k fa fd [x] sp) (bd : ∀ (s : Shared) (u : Value), BindsTo s fd ⟨[u], []⟩ [(x, u)])
    (hCX : ∀ H e s', CX [] H s (fun _ _ _ => False) e s' → False)
    (H : Hp) (hsp : sp [.ref a] H (fun v _ => v = .bl true) fun _ _ _ => False) (only : Only H) (ok : HOk P w H s.heap) (one : ∀ b, H b ≠ none → b = a) (off : H a ≠ none → K.lookup a = none) :
    codeAny (model P w) callerA (.call (.ref fa) ⟨[.ref a], []⟩) (fun r s' => r = .ok (.ret (.bool true)) ∧ OldK s.heap s'.heap ∧ s'.os = s.os ∧ AllBare s'.gens) s := by
  have dictOff : ∀ {b : Addr} {o : Obj} {es : Array DictEntry} {ep : Nat}, s.heap.get? b = some o → o.data = .dict es ep → H b = none := by
    intro b o es ep e d
    apply Classical.byContradiction
    intro z
    have eb := one b z
    subst eb
    rw [ha] at e
    have eo := Option.some.inj e
    subst eo
    cases (show Data.seq vs.toArray _ = Data.dict es ep from d)
  have nsOf : ∀ {b : Addr} {m : Str → Option Value}, s.heap.Ns b m → (hidT s.heap H).Ns b m := by
    rintro b m ⟨o, es, ep, e, d, r⟩
    exact ⟨o, es, ep, hidT_get e (dictOff e d), d, r⟩
  have kinB : K.In (hidT s.heap H) := by
    intro b o e
    refine hidT_get (kin b o e) (Classical.byContradiction fun z => ?_)
    have eb := one b z
    subst eb
    rw [off z] at e
    cases e
  have md : Mod K mg (hidT s.heap H) := by
    obtain ⟨mc, l1, l2⟩ := hlim
    exact ⟨kinB, nsOf hns, ⟨mb, nsOf hb, hbb⟩, mc, nsOf l1, l2⟩
  have en : Env0 P w K mg (hidT s.heap H) callerA [] s H := by
    refine ⟨rfl, md, fun b o e => of_hidT e, Nat.le_of_eq (hidT_size _ _), trivial, fun b z => ?_, ok, .of_eq gens⟩
    exact nomatch (show b ∈ ([] : List Addr) from z)
  have run := (F _ kinB (nsOf hns)).go callerA [] s H ⟨[.ref a], []⟩ [.ref a] [.ref a] _ _ rfl room en (bd s (.ref a)) (.cons rfl .nil) hsp
  refine codeAny_mono run fun r s' h => ?_
  match r, h with
  | .error e, h => exact (hCX H e s' h).elim
  | .ok .next, h => exact False.elim h
  | .ok .brk, h => exact False.elim h
  | .ok .cont, h => exact False.elim h
  | .ok (.ret u), h =>
    obtain ⟨v, H', eos, ebare, un, ok', rel, q⟩ := h
    have ev : v = .bl true := q
    subst ev
    have eu : u = Value.bool true := rel
    subst eu
    refine ⟨rfl, OldK.of_keep fun b o e => ?_, eos, ebare⟩
    cases hq : H b with
    | none => exact un.keep b o e hq (fun z => nomatch (show b ∈ ([] : List Addr) from z)) (by simp)
    | some u =>
      rcases only b with z | ⟨ob, xs, z⟩
      · rw [hq] at z; cases z
      · have after := un.frzs b ob _ z
        have at1 := (ok b _ z).1
        have at2 := (ok' b _ after).1
        rw [e] at at1
        cases at1
        exact at2
theorem law_top (kin : K.In s.heap) (hns : s.heap.Ns mainGlobals mg) (hb : s.heap.Ns builtinsNs mb) (hbb : ∀ x : Str, x ≠ "__name__" → mb x = bootBuiltins x) (hlim : s.heap.NoLimit) (gens : s.gens = #[])
    (ha : s.heap.get? a = some (scrO vs)) (isI : IntsAre vs ns) (len : ns.length ≤ sizeLine) (room : Room k callerA)
    (F : ∀ base : Heap, K.In base → base.Ns mainGlobals mg → FnTop P w K mg base CX k fa fd [x] sp) (bd : ∀ (s : Shared) (u : Value), BindsTo s fd ⟨[u], []⟩ [(x, u)])
    (hsp : ∀ H : Hp, Only H → SqL K H a (ns.map V.int) → sp [.ref a] H (fun v _ => v = .bl true) fun _ _ _ => False)
    (hCX : ∀ H e s', CX [] H s (fun _ _ _ => False) e s' → False) :
    codeAny (model P w) callerA (.call (.ref fa) ⟨[.ref a], []⟩) (fun r s' => r = .ok (.ret (.bool true)) ∧ OldK s.heap s'.heap ∧ s'.os = s.os ∧ AllBare s'.gens) s := by
  have rel := vals_ints isI
  have size := isI.length
  cases hk : K.lookup a with
  | some o =>
    have e := kin a o hk
    rw [ha] at e
    have eo := Option.some.inj e
    subst eo
    have only : Only (fun _ => none) := fun _ => .inl rfl
    refine top_core kin hns hb hbb hlim gens ha room F bd hCX (fun _ => none) (hsp _ only (.inr ⟨_, vs.toArray, _, hk, rfl, rfl, rfl, ?_, by simpa using rel⟩)) only (fun b u z => ?_) (fun b z => absurd rfl z) fun z => absurd rfl z
    · rw [List.size_toArray, size]; exact len
    · cases (show (none : Option HO) = some u from z)
  | none =>
    have here : (fun b => if b = a then some (HO.frz (scrO vs) (.lst (ns.map V.int))) else none) a = some (HO.frz (scrO vs) (.lst (ns.map V.int))) := if_pos rfl
    have away : ∀ {b : Addr}, b ≠ a → (fun b => if b = a then some (HO.frz (scrO vs) (.lst (ns.map V.int))) else none) b = none := fun h => if_neg h
    generalize (fun b => if b = a then some (HO.frz (scrO vs) (.lst (ns.map V.int))) else none) = H at here away
    have only : Only H := fun b => by
      by_cases e : b = a
      · subst e; exact .inr ⟨_, _, here⟩
      · exact .inl (away e)
    refine top_core kin hns hb hbb hlim gens ha room F bd hCX H (hsp H only (.inl (.inr ⟨_, here⟩))) only (fun b u z => ?_) (fun b z => Classical.byContradiction fun e => z (away e)) fun _ => hk
    by_cases e : b = a
    · subst e
      rw [here] at z
      have z := Option.some.inj z
      subst z
      exact ⟨ha, by rw [List.length_map]; exact len, vs, _, rel, ha⟩
    · rw [away e] at z
      cases z
end
theorem walk_T {l : PySem.W.OpenLaw} {n k : Nat} {q : Program} {loose : List Str} {XP : (Str → Option Value) → Heap → Prop} {YP : World → Heap → Prop} {d : DefRec} {K : Params → PySem.W.Frag} {sp : DSp} {x : Str}
    (hn : l.most = some n) (hn2 : n ≤ sizeLine) (hdf : d.params.defaults = []) (hr : Room k callerA) (hY : ∀ (w : World) (h : Heap), YP w h → (K w.params).In h)
    (F : ∀ (w : World) (mg : Str → Option Value) (fa : Addr) (h : Heap), (K w.params).In h → h.Ns mainGlobals mg → mg d.name = some (.ref fa) →
      ∃ fd : FuncData, (∀ (s : Shared) (u : Value), BindsTo s fd ⟨[u], []⟩ [(x, u)]) ∧
        ∀ base : Heap, (K w.params).In base → base.Ns mainGlobals mg → FnTop l.prog w (K w.params) mg base (L2.CX l.prog w) k fa fd [x] (spD (K w.params) sp))
    (hsp : ∀ (K : PySem.W.Frag) (H : Hp) (a : Addr) (ns : List Int), ns.length ≤ n → SqL K H a (ns.map V.int) → spD K sp [.ref a] H (fun v _ => v = .bl true) fun _ _ _ => False) :
    PySem.W.WalkO q loose XP YP l.row.toRowW d [] (fun f vs => PySem.call f vs) := by
  refine Att.attach_call hn hdf fun w s0 s1 mg mb fa o pm cd doc a vs ns G Y ho hd hcd hmg hobj isI len gens => ?_
  obtain ⟨fd, bd, hF⟩ := F w mg fa _ (hY w _ Y) G.T.g hmg
  refine law_top (hY w _ Y) G.T.g G.T.b G.T.builtins G.T.nolimit gens hobj isI (Nat.le_trans len hn2) hr hF bd (fun H _ hS => hsp _ H a ns len hS) fun H e s' h => ?_
  obtain ⟨_, _, _, _, _, _, _, _, _, _, _, _, z⟩ := h
  exact z.elim
end
section
/-! ### what str tells of data -/
theorem okS_app {x y : Str} (hx : PyData.strOk x = true) (hy : PyData.strOk y = true) : PyData.strOk (x ++ y) = true := by
  unfold PyData.strOk at *
  show ((x.cps ++ y.cps).all fun c => decide (c < 0x110000)) = true
  rw [Array.all_append, hx, hy]
  rfl
theorem okS_of (s : String) : PyData.strOk (Str.ofString s) = true := by
  rw [Str.ofString_eq_toList]
  unfold PyData.strOk
  dsimp only
  rw [List.all_toArray, List.all_map, List.all_eq_true]
  intro c _
  have h := c.valid
  rcases h with h | h
  · exact decide_eq_true (show c.toNat < 0x110000 by have : c.toNat = c.val.toNat := rfl; omega)
  · exact decide_eq_true (show c.toNat < 0x110000 by have : c.toNat = c.val.toNat := rfl; omega)
mutual
def showF : D → Bool
  | .non => true
  | .bl _ => true
  | .int i => decide (i.natAbs.log2 < 1920)
  | .str x => PyData.strOk (reprText x)
  | .tup ds => showFs ds
  | .lst ds => showFs ds
  | .ro ds => showFs ds
  | _ => false
def showFs : List D → Bool
  | [] => true
  | d :: ds => showF d && showFs ds
end
mutual
def showC : D → Nat
  | .non => 4
  | .bl _ => 5
  | .int _ => 1921
  | .str x => (reprText x).length
  | .tup ds => showCs ds + 4
  | .lst ds => showCs ds + 4
  | .ro ds => showCs ds + 4
  | _ => 0
def showCs : List D → Nat
  | [] => 0
  | d :: ds => showC d + 2 + showCs ds
end
theorem okS_join {sep : Str} (hs : PyData.strOk sep = true) : ∀ ts : List Str, (∀ t ∈ ts, PyData.strOk t = true) → PyData.strOk (Str.join sep ts) = true
  | [], _ => by unfold Str.join; decide +kernel
  | [x], h => h x List.mem_cons_self
  | x :: y :: r, h => okS_app (okS_app (h x List.mem_cons_self) hs) (okS_join hs (y :: r) fun t ht => h t (List.mem_cons_of_mem _ ht))
theorem okS_from : ∀ (ts : List Str) (k : Nat) (acc : Str), PyData.strOk acc = true → (∀ t ∈ ts, PyData.strOk t = true) → PyData.strOk (textFrom k acc ts) = true
  | [], _, acc, h, _ => h
  | t :: ts, k, acc, h, g => by
    unfold textFrom
    exact okS_from ts (k + 1) _ (okS_app (okS_app h (okS_of _)) (g t List.mem_cons_self)) fun u hu => g u (List.mem_cons_of_mem _ hu)
theorem fromC : ∀ (ts : List Str) (k : Nat) (acc : Str), (textFrom k acc ts).length ≤ acc.length + piled ts
  | [], k, acc => by unfold textFrom; simp [piled]
  | t :: ts, k, acc => by
    unfold textFrom
    have h1 := fromC ts (k + 1) (acc ++ (if k > 0 then ", " else "" : String) ++ t)
    have e0 : (((if k > 0 then ", " else "" : String) : Str)).length ≤ 2 := by split <;> decide +kernel
    rw [strLen_append, strLen_append] at h1
    rw [piled_cons]
    omega
mutual
theorem show_ok : ∀ {d : D} {p : PyData}, py d = some p → showF d = true → PyData.showable p = true ∧ PyData.strOk p.shown = true ∧ p.shown.length ≤ showC d
  | .non, p, h, _ => by simp only [py, Option.some.injEq] at h; subst h; exact ⟨by simp [PyData.showable], by simp only [PyData.shown]; exact okS_of _, by simp only [PyData.shown, showC]; decide +kernel⟩
  | .bl b, p, h, _ => by
    simp only [py, Option.some.injEq] at h
    subst h
    refine ⟨by simp [PyData.showable], by simp only [PyData.shown]; split <;> exact okS_of _, ?_⟩
    simp only [PyData.shown, showC]
    cases b <;> decide +kernel
  | .int i, p, h, hs => by
    simp only [py, Option.some.injEq] at h
    subst h
    have hs : i.natAbs.log2 < 1920 := by simpa [showF] using hs
    exact ⟨by simpa [PyData.showable] using hs, by simp only [PyData.shown]; exact okS_of _, by simp only [PyData.shown, showC]; exact int_text_len_1921 hs⟩
  | .str x, p, h, hs => by
    simp only [py, Option.some.injEq] at h
    subst h
    exact ⟨by simp [PyData.showable], by simp only [PyData.shown]; simpa [showF] using hs, by simp only [PyData.shown, showC]; exact Nat.le_refl _⟩
  | .tup ds, p, h, hs => by
    simp only [py, Option.map_eq_some_iff] at h
    obtain ⟨ps, h1, rfl⟩ := h
    obtain ⟨k1, k2, k3⟩ := shows_ok h1 (by simpa [showF] using hs)
    refine ⟨by simpa [PyData.showable] using k1, ?_, ?_⟩
    · simp only [PyData.shown]
      unfold tupleText
      exact okS_app (okS_app (okS_of _) (okS_join (okS_of _) _ k2)) (okS_of _)
    · simp only [PyData.shown, showC]
      have := fmt_text (PyData.shownAll ps)
      omega
  | .lst ds, p, h, hs => by
    simp only [py, Option.map_eq_some_iff] at h
    obtain ⟨ps, h1, rfl⟩ := h
    obtain ⟨k1, k2, k3⟩ := shows_ok h1 (by simpa [showF] using hs)
    refine ⟨by simpa [PyData.showable] using k1, ?_, ?_⟩
    · simp only [PyData.shown]
      unfold listText
      exact okS_app (okS_from _ _ _ (okS_of _) k2) (okS_of _)
    · simp only [PyData.shown, showC]
      unfold listText
      have := fromC (PyData.shownAll ps) 0 (("[" : String) : Str)
      rw [strLen_append]
      have e1 : ((("[" : String) : Str)).length = 1 := rfl
      have e2 : ((("]" : String) : Str)).length = 1 := rfl
      omega
  | .ro ds, p, h, hs => by
    simp only [py, Option.map_eq_some_iff] at h
    obtain ⟨ps, h1, rfl⟩ := h
    obtain ⟨k1, k2, k3⟩ := shows_ok h1 (by simpa [showF] using hs)
    refine ⟨by simpa [PyData.showable] using k1, ?_, ?_⟩
    · simp only [PyData.shown]
      unfold listText
      exact okS_app (okS_from _ _ _ (okS_of _) k2) (okS_of _)
    · simp only [PyData.shown, showC]
      unfold listText
      have := fromC (PyData.shownAll ps) 0 (("[" : String) : Str)
      rw [strLen_append]
      have e1 : ((("[" : String) : Str)).length = 1 := rfl
      have e2 : ((("]" : String) : Str)).length = 1 := rfl
      omega
  | .ref _, p, h, _ => by simp [py] at h
  | .ty _, p, h, _ => by simp [py] at h
  | .exc _, p, h, _ => by simp [py] at h
theorem shows_ok : ∀ {ds : List D} {ps : List PyData}, pys ds = some ps → showFs ds = true → PyData.showableAll ps = true ∧ (∀ t ∈ PyData.shownAll ps, PyData.strOk t = true) ∧ piled (PyData.shownAll ps) ≤ showCs ds
  | [], ps, h, _ => by simp only [pys, Option.some.injEq] at h; subst h; exact ⟨by simp [PyData.showableAll], by simp [PyData.shownAll], by simp [PyData.shownAll, piled]⟩
  | d :: ds, ps, h, hs => by
    simp only [pys, Option.bind_eq_some_iff, Option.map_eq_some_iff] at h
    obtain ⟨p, h1, qs, h2, rfl⟩ := h
    rw [showFs, Bool.and_eq_true] at hs
    obtain ⟨a1, a2, a3⟩ := show_ok h1 hs.1
    obtain ⟨b1, b2, b3⟩ := shows_ok h2 hs.2
    refine ⟨by simp [PyData.showableAll, a1, b1], ?_, ?_⟩
    · intro t ht
      simp only [PyData.shownAll, List.mem_cons] at ht
      rcases ht with rfl | ht
      · exact a2
      · exact b2 t ht
    · simp only [PyData.shownAll, piled_cons, showCs]
      omega
end
/-- the text of data -/
def shD (x : D) : Str := match py x with
  | some p => p.shown
  | none => Str.ofString ""
/-- data that str can tell -/
structure Shw (x : D) : Prop where
  r : isRefD x = true
  f : fitD 60 x = true
  s : showF x = true
  c : showC x ≤ 2 ^ 24
theorem r_str {x : D} (h : Shw x) {μ : Mu} {P : DK} : qStr [x] μ P = P (.str (shD x)) μ := by
  obtain ⟨p, h1, h2, h3⟩ := fit_py h.f
  obtain ⟨k1, k2, k3⟩ := show_ok h1 h.s
  have e : shD x = p.shown := by unfold shD; rw [h1]
  unfold qStr
  rw [e]
  apply propext
  constructor
  · rintro ⟨y, q, ey, _, e2, _, _, _, _, q'⟩
    cases ey
    rw [pyM_fit h.f, h1] at e2
    cases e2
    exact q'
  · intro q
    exact ⟨x, p, rfl, h.r, by rw [pyM_fit h.f]; exact h1, h2, k1, by omega, Nat.le_trans k3 h.c, q⟩
theorem shD_ok {x : D} (h : Shw x) : PyData.strOk (shD x) = true := by
  obtain ⟨p, h1, h2, h3⟩ := fit_py h.f
  obtain ⟨k1, k2, k3⟩ := show_ok h1 h.s
  unfold shD
  rw [h1]
  exact k2
theorem r_neSh {x : D} (h : Shw x) {μ : Mu} {P : DK} : qNe (.str (shD x)) (.str (shD x)) μ P = P (.bl false) μ := by
  rw [r_neS (shD_ok h) (shD_ok h)]
  simp
theorem log_bd {n : Nat} {i : Int} (h : Bd n i) (l : n ≤ 1920) : i.natAbs.log2 < 1920 := by
  by_cases z : i.natAbs = 0
  · rw [z]; decide
  · exact Nat.lt_of_lt_of_le ((Nat.log2_lt z).mpr h) l
theorem shw_mom {m : Mom} {n : Nat} (h : m.Ok n) (l : n ≤ 1920) : Shw m.d := by
  cases m with
  | q f => exact ⟨rfl, fit_mom, by simp [Mom.d, fr, showF, showFs, log_bd h.2.1 l, log_bd h.2.2 l], by simp [Mom.d, fr, showC, showCs]⟩
  | r a b c s =>
    have hs : Int.natAbs s < 2 := by rcases h.2.2.2.2 with e | e <;> subst e <;> decide
    have hs2 : s.natAbs.log2 < 1920 := log_bd (n := 1) hs (by decide)
    exact ⟨rfl, fit_mom, by simp [Mom.d, showF, showFs, log_bd h.2.1 l, log_bd h.2.2.1 l, log_bd h.2.2.2.1 l, hs2], by simp [Mom.d, showC, showCs]⟩
theorem shw_moms {ms : List Mom} {n : Nat} (h : ∀ m ∈ ms, m.Ok n) (l : n ≤ 1920) (k : ms.length ≤ 1000) : Shw (.lst (momsD ms)) := by
  refine ⟨rfl, ?_, ?_, ?_⟩
  · have : ∀ ms : List Mom, fitDs 59 (momsD ms) = true := by
      intro ms
      induction ms with
      | nil => rfl
      | cons m ms ih => unfold momsD at ih; simp only [momsD, List.map_cons, fitDs, ih]; cases m <;> simp [Mom.d, fr, fitD, fitDs]
    simpa [fitD] using this ms
  · have : ∀ ms : List Mom, (∀ m ∈ ms, m.Ok n) → showFs (momsD ms) = true := by
      intro ms
      induction ms with
      | nil => intro _; rfl
      | cons m ms ih =>
        intro h
        have := ih fun x hx => h x (List.mem_cons_of_mem _ hx)
        unfold momsD at this
        simp only [momsD, List.map_cons, showFs, this, (shw_mom (h m List.mem_cons_self) l).s]
        rfl
    simpa [showF] using this ms h
  · have : ∀ ms : List Mom, showCs (momsD ms) ≤ 8000 * ms.length := by
      intro ms
      induction ms with
      | nil => simp [momsD, showCs]
      | cons m ms ih =>
        unfold momsD at ih
        simp only [momsD, List.map_cons, showCs, List.length_cons]
        have : showC m.d ≤ 7900 := by cases m <;> simp [Mom.d, fr, showC, showCs]
        omega
    have := this ms
    simp only [showC]
    omega
/-! ### a part of a list, a new list of our own -/
def qCutO (x : D) (lo hi : Option Int) (μ : Mu) (P : DK) : Prop := ∃ ds, lstOf μ x = some ds ∧ ∀ p, μ p = none → P (.ref p) (put μ p (.lst (cutL ds lo hi)))
def dCutO (f : DE) (l h : DO) (ρ : RE) (μ : Mu) (P : DK) : Prop := f ρ μ fun x μ1 => l ρ μ1 fun lo μ2 => h ρ μ2 fun hi μ3 => qCutO x lo hi μ3 P
theorem pd_cutO {X : Cx} {W : WX} {PX : DX} {e : Expr} {te : TE} {f : DE} {pos : Pos} {lo hi : Option Expr} {tl th : TO} {l h : DO} {p2} (he : PD X W PX e te f) (hl : PDO X W PX lo tl l) (hh : PDO X W PX hi th h) : PD X W PX (.Subscript e (.Slice lo hi none p2) pos) (tSl (rCut X.K) te tl th) (dCutO f l h) := by
  refine ⟨pe_slice (SlR.or sl_list sl_tup) he.pe hl.pe hh.pe, fun T wl σ F H ρ μ P Q R hf k => ?_⟩
  refine he.he T wl σ F H ρ μ _ _ R hf fun x μ1 v F1 H1 g1 c1 r1 q1 => ?_
  refine hl.he T wl σ F1 H1 ρ μ1 _ _ (R.go g1.ex c1) q1 fun o1 μ2 F2 H2 g2 c2 q2 => ?_
  refine hh.he T wl σ F2 H2 ρ μ2 _ _ (R.go (g1.trans g2).ex c2) q2 fun o2 μ3 F3 H3 g3 c3 q3 => ?_
  obtain ⟨ds, e, p⟩ := q3
  obtain ⟨a, xs, rfl, h1, h2⟩ := lst_of c3 (r1.mono (g2.trans g3).ex) e
  refine .inl ⟨a, xs, rfl, h1, fun p' hp => ?_⟩
  obtain ⟨c4, g4, mp⟩ := c3.new hp (reps_cut h2)
  exact k _ _ _ _ _ (((g1.trans g2).trans g3).trans g4) c4 mk_ref (p p' mp)
section
variable {f : DE} {l h : DO} {ρ : RE} {μ : Mu} {P : DK} {ds : List D} {o1 o2 : Option Int} {A : Addr}
theorem r_cutO : dCutO f l h ρ μ P = f ρ μ fun x μ1 => l ρ μ1 fun lo μ2 => h ρ μ2 fun hi μ3 => qCutO x lo hi μ3 P := rfl
theorem r_cutOL : qCutO (.lst ds) o1 o2 μ P = ∀ p, μ p = none → P (.ref p) (put μ p (.lst (cutL ds o1 o2))) := by simp [qCutO, lstOf]
theorem r_cutOP : qCutO (.ref A) o1 o2 (put μ A (.lst ds)) P = ∀ p, put μ A (.lst ds) p = none → P (.ref p) (put (put μ A (.lst ds)) p (.lst (cutL ds o1 o2))) := by simp [qCutO, lstOf, put_same]
theorem r_strP (h : Shw (.lst ds)) : qStr [.ref A] (put μ A (.lst ds)) P = P (.str (shD (.lst ds))) (put μ A (.lst ds)) := by
  have r := @r_str _ h (put μ A (.lst ds)) P
  rw [← r]
  unfold qStr
  apply propext
  have e : pyM (put μ A (.lst ds)) (.ref A) = pyM (put μ A (.lst ds)) (.lst ds) := by
    simp only [pyM, put_same]
    simp only [py]
  constructor
  · rintro ⟨y, q, ey, _, e2, k⟩
    cases ey
    rw [e] at e2
    exact ⟨_, q, rfl, rfl, e2, k⟩
  · rintro ⟨y, q, ey, _, e2, k⟩
    cases ey
    rw [← e] at e2
    exact ⟨_, q, rfl, rfl, e2, k⟩
end
end
section
/-! ### what fractions are worth -/
def rv (p : Int × Int) : Rat := (p.1 : Rat) / (p.2 : Rat)
theorem ratne {b : Int} (h : b ≠ 0) : (b : Rat) ≠ 0 := by
  intro z
  exact h (by exact_mod_cast z)
theorem rv_low {a b : Int} (h : b ≠ 0) : rv (low a b) = (a : Rat) / (b : Rat) := by
  have e := low_cross (a := a) h
  have n := (low_can (a := a) h).ne
  unfold rv
  generalize low a b = q at *
  have e2 : (q.1 : Rat) * (b : Rat) = (a : Rat) * (q.2 : Rat) := by exact_mod_cast e
  have h1 := ratne h
  have h2 := ratne n
  grind
section
variable {p q : Int × Int}
theorem rv_add (hp : Fr p) (hq : Fr q) : rv (fadd p q) = rv p + rv q := by
  unfold fadd
  rw [rv_low (mul_ne hp hq)]
  unfold rv
  have h1 := ratne hp.ne
  have h2 := ratne hq.ne
  simp only [Rat.intCast_add, Rat.intCast_mul]
  grind
theorem rv_sub (hp : Fr p) (hq : Fr q) : rv (fsub p q) = rv p - rv q := by
  unfold fsub
  rw [rv_low (mul_ne hp hq)]
  unfold rv
  have h1 := ratne hp.ne
  have h2 := ratne hq.ne
  simp only [Rat.intCast_sub, Rat.intCast_mul]
  grind
theorem rv_mul (hp : Fr p) (hq : Fr q) : rv (fmul p q) = rv p * rv q := by
  unfold fmul
  rw [rv_low (mul_ne hp hq)]
  unfold rv
  have h1 := ratne hp.ne
  have h2 := ratne hq.ne
  simp only [Rat.intCast_mul]
  grind
theorem rv_int (i : Int) : rv (i, 1) = (i : Rat) := by
  unfold rv
  simp
  grind
theorem rv_inj (hp : Fr p) (hq : Fr q) (h : rv p = rv q) : p = q := by
  refine fr_unique hp hq ?_
  unfold rv at h
  have h1 := ratne hp.ne
  have h2 := ratne hq.ne
  have : (p.1 : Rat) * (q.2 : Rat) = (q.1 : Rat) * (p.2 : Rat) := by grind
  exact_mod_cast this
theorem rv_neg : rv (0 - p.1, p.2) = - rv p := by
  unfold rv
  simp only [Rat.intCast_sub]
  grind
theorem rv_zero (hp : Fr p) : rv p = 0 ↔ p.1 = 0 := by
  unfold rv
  have h1 := ratne hp.ne
  constructor
  · intro h
    have : (p.1 : Rat) = 0 := by grind
    exact_mod_cast this
  · intro h
    rw [h]
    grind
theorem rv_pos (hp : Fr p) : 0 < rv p ↔ 0 < p.1 := by
  have h0 : (0 : Rat) < (p.2 : Rat) := by exact_mod_cast hp.1
  have e : rv p * (p.2 : Rat) = (p.1 : Rat) := by unfold rv; grind
  constructor
  · intro h
    have := Rat.mul_pos h h0
    rw [e] at this
    exact_mod_cast this
  · intro h
    have h' : (0 : Rat) < (p.1 : Rat) := by exact_mod_cast h
    apply Rat.not_le.mp
    intro z
    have := Rat.mul_nonneg (show 0 ≤ - rv p by grind) (Rat.le_of_lt h0)
    grind
end
/-! ### a curve taken by some number has the same whole numbers -/
theorem nrm_prop {a b c x y z p q : Int} (hp : p ≠ 0) (hq : q ≠ 0) (nz : ¬ (x = 0 ∧ y = 0 ∧ z = 0)) (h1 : q * a = p * x) (h2 : q * b = p * y) (h3 : q * c = p * z) : nrm a b c = nrm x y z := by
  have n0 : ¬ (a = 0 ∧ b = 0 ∧ c = 0) := by
    rintro ⟨rfl, rfl, rfl⟩
    have f : ∀ w : Int, q * 0 = p * w → w = 0 := fun w e => by
      rw [Int.mul_zero] at e
      rcases Int.mul_eq_zero.mp e.symm with k | k
      · exact absurd k hp
      · exact k
    exact nz ⟨f _ h1, f _ h2, f _ h3⟩
  rw [← nrm_mul hq n0, ← nrm_mul hp nz, h1, h2, h3]
theorem wcur_prop {u : Cur} {n : Nat} {x y z : Int} {k : Rat} (hu : u.Ok n) (hk : k ≠ 0) (nz : ¬ (x = 0 ∧ y = 0 ∧ z = 0)) (h1 : rv u.a = k * x) (h2 : rv u.b = k * y) (h3 : rv u.c = k * z) : wcur u = nrm x y z := by
  have ha := ratne hu.fa.ne
  have hb := ratne hu.fb.ne
  have hc := ratne hu.fc.ne
  have kd : (k.den : Rat) ≠ 0 := by
    have := k.den_nz
    intro w
    exact this (by exact_mod_cast w)
  have ek : k * (k.den : Rat) = (k.num : Rat) := by
    have e := Rat.num_divInt_den k
    rw [Rat.divInt_eq_div, Rat.intCast_natCast] at e
    grind
  have kn : k.num ≠ 0 := fun w => hk (Rat.num_eq_zero.mp w)
  unfold rv at h1 h2 h3
  unfold wcur scal
  dsimp only
  have m0 : u.a.2 * u.b.2 * u.c.2 ≠ 0 := Int.mul_ne_zero (Int.mul_ne_zero hu.fa.ne hu.fb.ne) hu.fc.ne
  have d0 : (k.den : Int) ≠ 0 := by have := k.den_nz; omega
  refine nrm_prop (p := k.num * (u.a.2 * u.b.2 * u.c.2)) (q := (k.den : Int)) (Int.mul_ne_zero kn m0) d0 nz ?_ ?_ ?_
  · have e : ((k.den : Int) : Rat) * ((u.a.1 : Rat) * ((u.b.2 : Rat) * (u.c.2 : Rat))) = (k.num : Rat) * ((u.a.2 : Rat) * (u.b.2 : Rat) * (u.c.2 : Rat)) * (x : Rat) := by
      rw [← ek, Rat.intCast_natCast]
      have : (u.a.1 : Rat) = k * x * (u.a.2 : Rat) := by grind
      rw [this]
      grind
    exact_mod_cast e
  · have e : ((k.den : Int) : Rat) * ((u.b.1 : Rat) * ((u.a.2 : Rat) * (u.c.2 : Rat))) = (k.num : Rat) * ((u.a.2 : Rat) * (u.b.2 : Rat) * (u.c.2 : Rat)) * (y : Rat) := by
      rw [← ek, Rat.intCast_natCast]
      have : (u.b.1 : Rat) = k * y * (u.b.2 : Rat) := by grind
      rw [this]
      grind
    exact_mod_cast e
  · have e : ((k.den : Int) : Rat) * ((u.c.1 : Rat) * ((u.a.2 : Rat) * (u.b.2 : Rat))) = (k.num : Rat) * ((u.a.2 : Rat) * (u.b.2 : Rat) * (u.c.2 : Rat)) * (z : Rat) := by
      rw [← ek, Rat.intCast_natCast]
      have : (u.c.1 : Rat) = k * z * (u.c.2 : Rat) := by grind
      rw [this]
      grind
    exact_mod_cast e
/-- of a curve its whole numbers are such a curve -/
theorem wcur_val {u : Cur} {n : Nat} (hu : u.Ok n) (h : u.nz) : ∃ k : Rat, k ≠ 0 ∧ rv u.a = k * (wcur u).a ∧ rv u.b = k * (wcur u).b ∧ rv u.c = k * (wcur u).c := by
  have ha := ratne hu.fa.ne
  have hb := ratne hu.fb.ne
  have hc := ratne hu.fc.ne
  have sz := scal_nz hu h
  obtain ⟨h1, h2, h3⟩ := nrm_mul_dv (scal u).a (scal u).b (scal u).c
  have d0 := ratne (dv3_ne sz)
  change (wcur u).a * _ = _ at h1
  change (wcur u).b * _ = _ at h2
  change (wcur u).c * _ = _ at h3
  unfold rv
  generalize wcur u = t at *
  generalize dv3 (scal u).a (scal u).b (scal u).c = d at *
  unfold scal at h1 h2 h3
  dsimp only at h1 h2 h3
  have e1 : (t.a : Rat) * (d : Rat) = (u.a.1 : Rat) * ((u.b.2 : Rat) * (u.c.2 : Rat)) := by exact_mod_cast h1
  have e2 : (t.b : Rat) * (d : Rat) = (u.b.1 : Rat) * ((u.a.2 : Rat) * (u.c.2 : Rat)) := by exact_mod_cast h2
  have e3 : (t.c : Rat) * (d : Rat) = (u.c.1 : Rat) * ((u.a.2 : Rat) * (u.b.2 : Rat)) := by exact_mod_cast h3
  refine ⟨(d : Rat) / ((u.a.2 : Rat) * (u.b.2 : Rat) * (u.c.2 : Rat)), ?_, ?_, ?_, ?_⟩
  · intro z
    have : (d : Rat) = 0 := by grind
    exact d0 this
  · grind
  · grind
  · grind
theorem nrm_id {a b c : Int} (ha : 0 < a) (h : g3 a b c = 1) : nrm a b c = ⟨a, b, c⟩ := by
  have e : hd3 a b c = a := by unfold hd3; rw [if_pos (show a ≠ 0 by omega)]
  have d : dv3 a b c = 1 := by unfold dv3; rw [e, if_neg (show ¬ a < 0 by omega), h]
  unfold nrm
  rw [d]
  simp
end
section
/-! ### moments moved and grown -/
def movC (a b c : Int) (q : Int × Int) : Cur := ⟨(a, 1), fsub (b, 1) (fmul (2, 1) (fmul (a, 1) q)), worth ⟨(a, 1), fsub (0, 1) (b, 1), (c, 1)⟩ q⟩
def movM (m : Mom) (q : Int × Int) : Mom := match m with
  | .q x => .q (fadd x q)
  | .r a b c s => .r (wcur (movC a b c q)).a (wcur (movC a b c q)).b (wcur (movC a b c q)).c s
def grwC (a b c : Int) (q : Int × Int) : Cur := ⟨(a, 1), fmul (b, 1) q, fmul (c, 1) (fmul q q)⟩
def grwM (m : Mom) (q : Int × Int) : Mom := match m with
  | .q x => .q (fmul x q)
  | .r a b c s => .r (wcur (grwC a b c q)).a (wcur (grwC a b c q)).b (wcur (grwC a b c q)).c (if q.1 < 0 then 1 - s else s)
/-- tops below 2 ^ m, bottoms below 2 ^ n -/
def F2 (m n : Nat) (p : Int × Int) : Prop := Bd m p.1 ∧ Bd n p.2
theorem F2.mono {m n m' n' : Nat} {p : Int × Int} (h : F2 m n p) (l : m ≤ m') (k : n ≤ n') : F2 m' n' p := ⟨h.1.mono l, h.2.mono k⟩
theorem FB.f2 {n : Nat} {p : Int × Int} (h : FB n p) : F2 n n p := h
theorem f2_int {n : Nat} {i : Int} (h : Bd n i) : F2 n 1 (i, 1) := ⟨h, by show Bd 1 1; decide⟩
section
variable {p q : Int × Int} {m n m' n' : Nat}
theorem f2_mul (hp : Fr p) (hq : Fr q) (a : F2 m n p) (b : F2 m' n' q) : F2 (m + m') (n + n') (fmul p q) := low_bd (mul_ne hp hq) (a.1.mul b.1) (a.2.mul b.2)
theorem f2_add (hp : Fr p) (hq : Fr q) (a : F2 m n p) (b : F2 m' n' q) : F2 (max (m + n') (m' + n) + 1) (n + n') (fadd p q) := low_bd (mul_ne hp hq) ((a.1.mul b.2).add (b.1.mul a.2)) (a.2.mul b.2)
theorem f2_sub (hp : Fr p) (hq : Fr q) (a : F2 m n p) (b : F2 m' n' q) : F2 (max (m + n') (m' + n) + 1) (n + n') (fsub p q) := low_bd (mul_ne hp hq) ((a.1.mul b.2).sub (b.1.mul a.2)) (a.2.mul b.2)
end
section
variable {a b c : Int} {q : Int × Int} {n : Nat}
theorem mov_parts (hq : Fr q) (ba : Bd n a) (bb : Bd n b) (bc : Bd n c) (bq : FB n q) : Fr (movC a b c q).b ∧ Fr (movC a b c q).c ∧ F2 (2 * n + 4) (n + 3) (movC a b c q).b ∧ F2 (3 * n + 4) (2 * n + 3) (movC a b c q).c ∧ rv (movC a b c q).b = b - 2 * a * rv q ∧ rv (movC a b c q).c = a * rv q * rv q - b * rv q + c := by
  have fa := fr_int a
  have fb := fr_int b
  have fc := fr_int c
  have f2 := fr_int 2
  have f0 := fr_int 0
  unfold ofInt at fa fb fc f2 f0
  have c1 := fmul_can fa hq
  have b1 := f2_mul fa hq (f2_int ba) bq.f2
  have v1 := rv_mul fa hq
  have c2 := fmul_can f2 c1
  have b2 := f2_mul f2 c1 (f2_int (show Bd 2 2 by decide)) b1
  have v2 := rv_mul f2 c1
  have c3 := fsub_can fb c2
  have b3 := f2_sub fb c2 (f2_int bb) b2
  have v3 := rv_sub fb c2
  have c4 := fsub_can f0 fb
  have b4 := f2_sub f0 fb (f2_int (show Bd 1 0 by decide)) (f2_int bb)
  have v4 := rv_sub f0 fb
  have e4 : fsub (0, 1) (b, 1) = (0 - b, 1) := fsub_zero fb
  have b4' : F2 n 1 (fsub (0, 1) (b, 1)) := by rw [e4]; exact f2_int (bb.le (by omega))
  have c5 := fadd_can c1 c4
  have b5 := f2_add c1 c4 b1 b4'
  have v5 := rv_add c1 c4
  have c6 := fmul_can c5 hq
  have b6 := f2_mul c5 hq b5 bq.f2
  have v6 := rv_mul c5 hq
  have c7 := fadd_can c6 fc
  have b7 := f2_add c6 fc b6 (f2_int bc)
  have v7 := rv_add c6 fc
  rw [rv_int] at v1 v2 v3 v4 v7
  refine ⟨c3, c7, b3.mono (by omega) (by omega), b7.mono (by omega) (by omega), ?_, ?_⟩
  · show rv (fsub (b, 1) (fmul (2, 1) (fmul (a, 1) q))) = _
    rw [v3, v2, v1]
    simp
    grind
  · show rv (fadd (fmul (fadd (fmul (a, 1) q) (fsub (0, 1) (b, 1))) q) (c, 1)) = _
    rw [v7, v6, v5, v1, v4, rv_int]
    simp
    grind
theorem grw_parts (hq : Fr q) (ba : Bd n a) (bb : Bd n b) (bc : Bd n c) (bq : FB n q) : Fr (grwC a b c q).b ∧ Fr (grwC a b c q).c ∧ F2 (2 * n) (n + 1) (grwC a b c q).b ∧ F2 (3 * n) (2 * n + 1) (grwC a b c q).c ∧ rv (grwC a b c q).b = b * rv q ∧ rv (grwC a b c q).c = c * (rv q * rv q) := by
  have fb := fr_int b
  have fc := fr_int c
  unfold ofInt at fb fc
  have c1 := fmul_can fb hq
  have b1 := f2_mul fb hq (f2_int bb) bq.f2
  have v1 := rv_mul fb hq
  have c2 := fmul_can hq hq
  have b2 := f2_mul hq hq bq.f2 bq.f2
  have v2 := rv_mul hq hq
  have c3 := fmul_can fc c2
  have b3 := f2_mul fc c2 (f2_int bc) b2
  have v3 := rv_mul fc c2
  rw [rv_int] at v1 v3
  refine ⟨c1, c3, b1.mono (by omega) (by omega), b3.mono (by omega) (by omega), v1, ?_⟩
  show rv (fmul (c, 1) (fmul q q)) = _
  rw [v3, v2]
theorem mov_ok (hq : Fr q) (ba : Bd n a) (bb : Bd n b) (bc : Bd n c) (bq : FB n q) : (movC a b c q).Ok (3 * n + 4) := by
  obtain ⟨h1, h2, h3, h4, _⟩ := mov_parts hq ba bb bc bq
  exact ⟨fr_int a, h1, h2, ⟨ba.mono (by omega), (show Bd 1 1 by decide).mono (by omega)⟩, ⟨h3.1.mono (by omega), h3.2.mono (by omega)⟩, ⟨h4.1.mono (by omega), h4.2.mono (by omega)⟩⟩
theorem grw_ok (hq : Fr q) (ba : Bd n a) (bb : Bd n b) (bc : Bd n c) (bq : FB n q) : (grwC a b c q).Ok (3 * n + 1) := by
  obtain ⟨h1, h2, h3, h4, _⟩ := grw_parts hq ba bb bc bq
  exact ⟨fr_int a, h1, h2, ⟨ba.mono (by omega), (show Bd 1 1 by decide).mono (by omega)⟩, ⟨h3.1.mono (by omega), h3.2.mono (by omega)⟩, ⟨h4.1.mono (by omega), h4.2.mono (by omega)⟩⟩
theorem nz_of_a {u : Cur} (h : u.a.1 ≠ 0) : u.nz := fun z => h z.1
theorem wcur_pos {u : Cur} {n : Nat} (hu : u.Ok n) (h : 0 < u.a.1) : 0 < (wcur u).a ∧ wcur u = ⟨(scal u).a.fdiv (g3 (scal u).a (scal u).b (scal u).c), (scal u).b.fdiv (g3 (scal u).a (scal u).b (scal u).c), (scal u).c.fdiv (g3 (scal u).a (scal u).b (scal u).c)⟩ ∧ g3 (wcur u).a (wcur u).b (wcur u).c = 1 ∧ 0 < (scal u).a := by
  have nz := nz_of_a (u := u) (by omega)
  have sz := scal_nz hu nz
  have s0 : 0 < (scal u).a := Int.mul_pos h (Int.mul_pos hu.fb.1 hu.fc.1)
  have e : hd3 (scal u).a (scal u).b (scal u).c = (scal u).a := by unfold hd3; rw [if_pos (show (scal u).a ≠ 0 by omega)]
  have d : dv3 (scal u).a (scal u).b (scal u).c = g3 (scal u).a (scal u).b (scal u).c := by unfold dv3; rw [e, if_neg (show ¬ (scal u).a < 0 by omega)]
  refine ⟨?_, by unfold wcur nrm; rw [d], nrm_g3 sz, s0⟩
  have h1 := (nrm_mul_dv (scal u).a (scal u).b (scal u).c).1
  have gp := g3_pos sz
  rw [d] at h1
  apply Int.lt_of_not_ge
  intro z
  have := Int.mul_nonpos_of_nonpos_of_nonneg z (Int.le_of_lt gp)
  have h1' : (wcur u).a * g3 (scal u).a (scal u).b (scal u).c = (scal u).a := h1
  omega
theorem mov_bd (ha : 0 < a) (hq : Fr q) (ba : Bd n a) (bb : Bd n b) (bc : Bd n c) (bq : FB n q) : Bd (4 * n + 8) (wcur (movC a b c q)).a ∧ Bd (4 * n + 8) (wcur (movC a b c q)).b ∧ Bd (4 * n + 8) (wcur (movC a b c q)).c := by
  obtain ⟨h1, h2, h3, h4, _⟩ := mov_parts hq ba bb bc bq
  have ok := mov_ok hq ba bb bc bq
  obtain ⟨l1, l2, l3⟩ := nrm_le (scal_nz ok (nz_of_a (u := movC a b c q) (by show a ≠ 0; omega)))
  have o1 : Bd 1 (movC a b c q).a.2 := by show Bd 1 1; decide
  exact ⟨((ba.mul (h3.2.mul h4.2)).le l1).mono (by omega), ((h3.1.mul (o1.mul h4.2)).le l2).mono (by omega), ((h4.1.mul (o1.mul h3.2)).le l3).mono (by omega)⟩
theorem grw_bd (ha : 0 < a) (hq : Fr q) (ba : Bd n a) (bb : Bd n b) (bc : Bd n c) (bq : FB n q) : Bd (4 * n + 8) (wcur (grwC a b c q)).a ∧ Bd (4 * n + 8) (wcur (grwC a b c q)).b ∧ Bd (4 * n + 8) (wcur (grwC a b c q)).c := by
  obtain ⟨h1, h2, h3, h4, _⟩ := grw_parts hq ba bb bc bq
  have ok := grw_ok hq ba bb bc bq
  obtain ⟨l1, l2, l3⟩ := nrm_le (scal_nz ok (nz_of_a (u := grwC a b c q) (by show a ≠ 0; omega)))
  have o1 : Bd 1 (grwC a b c q).a.2 := by show Bd 1 1; decide
  exact ⟨((ba.mul (h3.2.mul h4.2)).le l1).mono (by omega), ((h3.1.mul (o1.mul h4.2)).le l2).mono (by omega), ((h4.1.mul (o1.mul h3.2)).le l3).mono (by omega)⟩
end
theorem movM_ok {m : Mom} {q : Int × Int} {n : Nat} (hm : m.Ok n) (hq : Fr q) (bq : FB n q) : (movM m q).Ok (4 * n + 8) := by
  cases m with
  | q x => exact ⟨fadd_can hm.1 hq, (fadd_bd hm.1 hq hm.2 bq).mono (by omega)⟩
  | r a b c s =>
    obtain ⟨ha, ba, bb, bc, hs⟩ := hm
    obtain ⟨h1, h2, h3⟩ := mov_bd ha hq ba bb bc bq
    exact ⟨(wcur_pos (mov_ok hq ba bb bc bq) ha).1, h1, h2, h3, hs⟩
theorem grwM_ok {m : Mom} {q : Int × Int} {n : Nat} (hm : m.Ok n) (hq : Fr q) (bq : FB n q) : (grwM m q).Ok (4 * n + 8) := by
  cases m with
  | q x => exact ⟨fmul_can hm.1 hq, (fmul_bd hm.1 hq hm.2 bq).mono (by omega)⟩
  | r a b c s =>
    obtain ⟨ha, ba, bb, bc, hs⟩ := hm
    obtain ⟨h1, h2, h3⟩ := grw_bd ha hq ba bb bc bq
    refine ⟨(wcur_pos (grw_ok hq ba bb bc bq) ha).1, h1, h2, h3, ?_⟩
    show (if q.1 < 0 then 1 - s else s) = 0 ∨ (if q.1 < 0 then 1 - s else s) = 1
    split <;> omega
theorem g3_of_pr {a b c : Int} (h : Int.gcd (Int.gcd a b : Nat) c = 1) : g3 a b c = 1 := by unfold g3; rw [h]; rfl
theorem mov_back {m : Mom} {q : Int × Int} {n : Nat} (hm : m.Ok n) (hp : m.Pr) (hq : Fr q) (bq : FB n q) : movM (movM m q) (0 - q.1, q.2) = m := by
  have hn := fr_neg hq
  cases m with
  | q x =>
    simp only [movM, Mom.q.injEq]
    refine rv_inj (fadd_can (fadd_can hm.1 hq) hn) hm.1 ?_
    rw [rv_add (fadd_can hm.1 hq) hn, rv_add hm.1 hq, rv_neg]
    grind
  | r a b c s =>
    obtain ⟨ha, ba, bb, bc, hs⟩ := hm
    obtain ⟨p1, p2, p3, p4, v1, v2⟩ := mov_parts hq ba bb bc bq
    have ok := mov_ok hq ba bb bc bq
    have nz := nz_of_a (u := movC a b c q) (by show a ≠ 0; omega)
    obtain ⟨k, k0, e1, e2, e3⟩ := wcur_val ok nz
    obtain ⟨b1, b2, b3⟩ := mov_bd ha hq ba bb bc bq
    have bn : FB (4 * n + 8) (0 - q.1, q.2) := ⟨(bq.1.le (by show (0 - q.1).natAbs ≤ q.1.natAbs; omega)).mono (by omega), bq.2.mono (by omega)⟩
    simp only [movM]
    generalize wcur (movC a b c q) = t at *
    obtain ⟨x, y, z⟩ := t
    dsimp only at *
    obtain ⟨r1, r2, r3, r4, w1, w2⟩ := mov_parts (a := x) (b := y) (c := z) hn b1 b2 b3 bn
    have ok2 := mov_ok (a := x) (b := y) (c := z) hn b1 b2 b3 bn
    have ea : (a : Rat) = k * x := by
      have : rv (movC a b c q).a = (a : Rat) := rv_int a
      rw [← this]; exact e1
    rw [v1] at e2
    rw [v2] at e3
    rw [rv_neg] at w1 w2
    have nz2 : ¬ (a = 0 ∧ b = 0 ∧ c = 0) := fun w => by have := w.1; omega
    have ki : (1 / k) ≠ 0 := by intro w; have : k * (1 / k) = 1 := by grind
                                rw [w] at this; simp at this
    have res := wcur_prop ok2 ki nz2 (by
      have : rv (movC x y z (0 - q.1, q.2)).a = (x : Rat) := rv_int x
      rw [this]; grind) (by rw [w1]; grind) (by rw [w2]; grind)
    rw [res, nrm_id ha (g3_of_pr hp.1)]
theorem grw_back {m : Mom} {q : Int × Int} {n : Nat} (hm : m.Ok n) (hp : m.Pr) (hq : Fr q) (bq : FB n q) (q0 : q.1 ≠ 0) : grwM (grwM m q) (low q.2 q.1) = m := by
  have hn := low_can (a := q.2) q0
  have vn := rv_low (a := q.2) q0
  have bn' := low_fb q0 bq.2 bq.1
  have h1 := ratne hq.ne
  have h2 := ratne q0
  have vq : rv q * rv (low q.2 q.1) = 1 := by rw [vn]; unfold rv; grind
  have sg : (low q.2 q.1).1 < 0 ↔ q.1 < 0 := by
    have i1 := rv_pos hn
    have i2 := rv_pos hq
    have z1 := rv_zero hn
    have z2 := rv_zero hq
    have c1 : rv q ≠ 0 := fun w => q0 (z2.mp w)
    have c2 : rv (low q.2 q.1) ≠ 0 := fun w => by rw [w] at vq; simp at vq
    have n1 : (low q.2 q.1).1 ≠ 0 := fun w => c2 (z1.mpr w)
    constructor
    · intro w
      apply Int.lt_of_not_ge
      intro g
      have p1 := i2.mpr (show 0 < q.1 by omega)
      have p2 : rv (low q.2 q.1) < 0 := by
        have : ¬ 0 < rv (low q.2 q.1) := fun g2 => by have := i1.mp g2; omega
        grind
      have := Rat.mul_pos p1 (show 0 < - rv (low q.2 q.1) by grind)
      grind
    · intro w
      apply Int.lt_of_not_ge
      intro g
      have p1 := i1.mpr (show 0 < (low q.2 q.1).1 by omega)
      have p2 : rv q < 0 := by
        have : ¬ 0 < rv q := fun g2 => by have := i2.mp g2; omega
        grind
      have := Rat.mul_pos p1 (show 0 < - rv q by grind)
      grind
  cases m with
  | q x =>
    simp only [grwM, Mom.q.injEq]
    refine rv_inj (fmul_can (fmul_can hm.1 hq) hn) hm.1 ?_
    rw [rv_mul (fmul_can hm.1 hq) hn, rv_mul hm.1 hq]
    grind
  | r a b c s =>
    obtain ⟨ha, ba, bb, bc, hs⟩ := hm
    obtain ⟨p1, p2, p3, p4, v1, v2⟩ := grw_parts hq ba bb bc bq
    have ok := grw_ok hq ba bb bc bq
    have nz := nz_of_a (u := grwC a b c q) (by show a ≠ 0; omega)
    obtain ⟨k, k0, e1, e2, e3⟩ := wcur_val ok nz
    obtain ⟨b1, b2, b3⟩ := grw_bd ha hq ba bb bc bq
    have bn : FB (4 * n + 8) (low q.2 q.1) := bn'.mono (by omega)
    simp only [grwM]
    generalize wcur (grwC a b c q) = t at *
    generalize low q.2 q.1 = i at *
    obtain ⟨x, y, z⟩ := t
    dsimp only at *
    obtain ⟨r1, r2, r3, r4, w1, w2⟩ := grw_parts (a := x) (b := y) (c := z) hn b1 b2 b3 bn
    have ok2 := grw_ok (a := x) (b := y) (c := z) hn b1 b2 b3 bn
    have ea : (a : Rat) = k * x := by
      have : rv (grwC a b c q).a = (a : Rat) := rv_int a
      rw [← this]; exact e1
    rw [v1] at e2
    rw [v2] at e3
    have nz2 : ¬ (a = 0 ∧ b = 0 ∧ c = 0) := fun w => by have := w.1; omega
    have ki : (1 / k) ≠ 0 := by intro w; have : k * (1 / k) = 1 := by grind
                                rw [w] at this; simp at this
    have res := wcur_prop ok2 ki nz2 (by
      have : rv (grwC x y z i).a = (x : Rat) := rv_int x
      rw [this]; grind) (by rw [w1]; grind) (by rw [w2]; grind)
    rw [res, nrm_id ha (g3_of_pr hp.1)]
    simp only [Mom.r.injEq, true_and]
    by_cases hq0 : q.1 < 0
    · have := sg.mpr hq0
      rw [if_pos this, if_pos hq0]; omega
    · have : ¬ i.1 < 0 := fun w => hq0 (sg.mp w)
      rw [if_neg this, if_neg hq0]
end
section
/-! ### the end: the law's own head -/
theorem law_hsp {sp : DSp} {n : Nat} (h : ∀ (ns : List Int) (μ : Mu) (P : DK) (PX : Value → XD → Mu → Prop), ns.length ≤ n → (∀ μ', P (.bl true) μ') → sp [.ro (ns.map D.int)] μ P PX) (K : PySem.W.Frag) (H : Hp) (a : Addr) (ns : List Int) (hl : ns.length ≤ n) (hS : SqL K H a (ns.map V.int)) :
    spD K sp [.ref a] H (fun v _ => v = .bl true) fun _ _ _ => False := by
  have r : ∀ l : List Int, Reps K H (l.map D.int) (l.map V.int) := by
    intro l
    induction l with
    | nil => exact reps_nil
    | cons x l ih => exact reps_cons mk_int ih
  refine ⟨H, fun _ => none, [.ro (ns.map D.int)], fun d _ => d = .bl true, fun _ _ _ => False, ⟨.refl, Ex.refl _, fun _ _ e => by cases e⟩, reps_cons (mk_ro hS (r ns)) reps_nil, h ns _ _ _ hl (fun _ => rfl), ?_, fun _ _ _ _ _ _ _ _ _ z => z⟩
  intro d v μ' F' H' _ _ rv e
  subst e
  exact rep_bl rv
theorem walk_D {l : PySem.W.OpenLaw} {n k : Nat} {q : Program} {loose : List Str} {XP : (Str → Option Value) → Heap → Prop} {YP : World → Heap → Prop} {d : DefRec} {K : Params → PySem.W.Frag} {sp : DSp} {x : Str}
    (hn : l.most = some n) (hn2 : n ≤ sizeLine) (hdf : d.params.defaults = []) (hr : Room k callerA)
    (hY : ∀ (w : World) (h : Heap), YP w h → (K w.params).In h)
    (F : ∀ (w : World) (mg : Str → Option Value) (fa : Addr) (h : Heap), (K w.params).In h → h.Ns mainGlobals mg → mg d.name = some (.ref fa) →
      ∃ fd : FuncData, (∀ (s : Shared) (u : Value), BindsTo s fd ⟨[u], []⟩ [(x, u)]) ∧
        ∀ base : Heap, (K w.params).In base → base.Ns mainGlobals mg → FnOk l.prog w (K w.params) mg base (L2.CX l.prog w) k fa fd [x] (spD (K w.params) sp))
    (hsp : ∀ (ns : List Int) (μ : Mu) (P : DK) (PX : Value → XD → Mu → Prop), ns.length ≤ n → (∀ μ', P (.bl true) μ') → sp [.ro (ns.map D.int)] μ P PX) :
    PySem.W.WalkO q loose XP YP l.row.toRowW d [] (fun f vs => PySem.call f vs) := by
  refine walk_of (K := K) (CX := fun w => L2.CX l.prog w) (sp := fun w => spD (K w.params) sp) hn hn2 hdf hr hY F (fun w H a ns h1 _ h3 => law_hsp hsp _ H a ns h1 h3) fun w H s e s' h => ?_
  obtain ⟨_, _, _, _, _, _, _, _, _, _, _, _, z⟩ := h
  exact z.elim
/-- nothing promised: the ground below a def that calls itself -/
theorem fn_none {P : Program} {w : World} {K : PySem.W.Frag} {mg : Str → Option Value} {base : Heap} {CX : CXT} {k : Nat} {f : Addr} {fd : FuncData} {ps : List Str} {sp : DSp} (h : ∀ ds μ Q PX, ¬ sp ds μ Q PX) : FnOk P w K mg base CX k f fd ps (spD K sp) := by
  refine ⟨?_, ?_⟩
  all_goals
    intros
    rename_i z
    obtain ⟨_, _, _, _, _, _, _, z, _⟩ := z
    exact (h _ _ _ _ z).elim
end
/-! ### the text -/
def topS (i : Nat) : Stmt := PySem.Challenge.pw_everpace_k07_moments_moved_and_grown.main.body.getD i (.Pass ⟨0, 0, 0, 0⟩)
abbrev s_divisor : Stmt := topS 17
theorem sc_divisor : FnScope ["one", "two"] ["one", "two"] (defScope s_divisor) := ⟨rfl, rfl, rfl, by decide +kernel, rfl, by decide +kernel, by decide +kernel⟩
abbrev s_fraction : Stmt := topS 18
theorem sc_fraction : FnScope ["top", "bottom", "by"] ["top", "bottom"] (defScope s_fraction) := ⟨rfl, rfl, rfl, by decide +kernel, rfl, by decide +kernel, by decide +kernel⟩
abbrev s_plus : Stmt := topS 19
theorem sc_plus : FnScope ["one", "two"] ["one", "two"] (defScope s_plus) := ⟨rfl, rfl, rfl, by decide +kernel, rfl, by decide +kernel, by decide +kernel⟩
abbrev s_minus : Stmt := topS 20
theorem sc_minus : FnScope ["one", "two"] ["one", "two"] (defScope s_minus) := ⟨rfl, rfl, rfl, by decide +kernel, rfl, by decide +kernel, by decide +kernel⟩
abbrev s_times : Stmt := topS 21
theorem sc_times : FnScope ["one", "two"] ["one", "two"] (defScope s_times) := ⟨rfl, rfl, rfl, by decide +kernel, rfl, by decide +kernel, by decide +kernel⟩
abbrev s_is_root : Stmt := topS 24
theorem sc_is_root : FnScope ["moment"] ["moment"] (defScope s_is_root) := ⟨rfl, rfl, rfl, by decide +kernel, rfl, by decide +kernel, by decide +kernel⟩
abbrev s_whole_curve : Stmt := topS 25
theorem sc_whole_curve : FnScope ["curve", "by", "part", "found", "share", "number"] ["curve"] (defScope s_whole_curve) := ⟨rfl, rfl, rfl, by decide +kernel, rfl, by decide +kernel, by decide +kernel⟩
abbrev s_fractions_of : Stmt := topS 26
theorem sc_fractions_of : FnScope ["numbers", "number"] ["numbers"] (defScope s_fractions_of) := ⟨rfl, rfl, rfl, by decide +kernel, rfl, by decide +kernel, by decide +kernel⟩
abbrev s_worth_at : Stmt := topS 27
theorem sc_worth_at : FnScope ["curve", "x", "a", "b", "c"] ["curve", "x"] (defScope s_worth_at) := ⟨rfl, rfl, rfl, by decide +kernel, rfl, by decide +kernel, by decide +kernel⟩
abbrev s_told_root : Stmt := topS 28
theorem sc_told_root : FnScope ["curve", "side"] ["curve", "side"] (defScope s_told_root) := ⟨rfl, rfl, rfl, by decide +kernel, rfl, by decide +kernel, by decide +kernel⟩
abbrev s_moved_by : Stmt := topS 29
theorem sc_moved_by : FnScope ["moment", "by", "a", "b", "c", "steep"] ["moment", "by"] (defScope s_moved_by) := ⟨rfl, rfl, rfl, by decide +kernel, rfl, by decide +kernel, by decide +kernel⟩
abbrev s_grown_by : Stmt := topS 30
theorem sc_grown_by : FnScope ["moment", "by", "a", "b", "c", "side"] ["moment", "by"] (defScope s_grown_by) := ⟨rfl, rfl, rfl, by decide +kernel, rfl, by decide +kernel, by decide +kernel⟩
abbrev s__law_mixed : Stmt := topS 32
theorem sc__law_mixed : FnScope ["_law_cell", "_law_k", "_law_number_here"] ["_law_cell", "_law_k"] (defScope s__law_mixed) := ⟨rfl, rfl, rfl, by decide +kernel, rfl, by decide +kernel, by decide +kernel⟩
abbrev s__law_purse : Stmt := topS 33
theorem sc__law_purse : FnScope ["_law_cell", "_law_k"] ["_law_cell", "_law_k"] (defScope s__law_purse) := ⟨rfl, rfl, rfl, by decide +kernel, rfl, by decide +kernel, by decide +kernel⟩
abbrev s__law_take : Stmt := topS 34
theorem sc__law_take : FnScope ["_law_purse_here", "_law_many", "_law_got"] ["_law_purse_here", "_law_many"] (defScope s__law_take) := ⟨rfl, rfl, rfl, by decide +kernel, rfl, by decide +kernel, by decide +kernel⟩
abbrev s__law_at : Stmt := topS 35
theorem sc__law_at : FnScope ["_law_script", "_law_k"] ["_law_script", "_law_k"] (defScope s__law_at) := ⟨rfl, rfl, rfl, by decide +kernel, rfl, by decide +kernel, by decide +kernel⟩
abbrev s__law_low : Stmt := topS 36
theorem sc__law_low : FnScope ["_law_top", "_law_bottom", "_law_one", "_law_other"] ["_law_top", "_law_bottom"] (defScope s__law_low) := ⟨rfl, rfl, rfl, by decide +kernel, rfl, by decide +kernel, by decide +kernel⟩
abbrev s__law_plus : Stmt := topS 37
theorem sc__law_plus : FnScope ["_law_one", "_law_other"] ["_law_one", "_law_other"] (defScope s__law_plus) := ⟨rfl, rfl, rfl, by decide +kernel, rfl, by decide +kernel, by decide +kernel⟩
abbrev s__law_less : Stmt := topS 38
theorem sc__law_less : FnScope ["_law_one", "_law_other"] ["_law_one", "_law_other"] (defScope s__law_less) := ⟨rfl, rfl, rfl, by decide +kernel, rfl, by decide +kernel, by decide +kernel⟩
abbrev s__law_by : Stmt := topS 39
theorem sc__law_by : FnScope ["_law_one", "_law_other"] ["_law_one", "_law_other"] (defScope s__law_by) := ⟨rfl, rfl, rfl, by decide +kernel, rfl, by decide +kernel, by decide +kernel⟩
abbrev s__law_number : Stmt := topS 40
theorem sc__law_number : FnScope ["_law_purse_here", "_law_way"] ["_law_purse_here"] (defScope s__law_number) := ⟨rfl, rfl, rfl, by decide +kernel, rfl, by decide +kernel, by decide +kernel⟩
abbrev s__law_square_root : Stmt := topS 41
theorem sc__law_square_root : FnScope ["_law_number_here", "_law_low_here", "_law_step"] ["_law_number_here"] (defScope s__law_square_root) := ⟨rfl, rfl, rfl, by decide +kernel, rfl, by decide +kernel, by decide +kernel⟩
abbrev s__law_common : Stmt := topS 42
theorem sc__law_common : FnScope ["_law_one", "_law_other"] ["_law_one", "_law_other"] (defScope s__law_common) := ⟨rfl, rfl, rfl, by decide +kernel, rfl, by decide +kernel, by decide +kernel⟩
abbrev s__law_root : Stmt := topS 43
theorem sc__law_root : FnScope ["_law_a", "_law_b", "_law_c", "_law_side", "_law_by_here"] ["_law_a", "_law_b", "_law_c", "_law_side"] (defScope s__law_root) := ⟨rfl, rfl, rfl, by decide +kernel, rfl, by decide +kernel, by decide +kernel⟩
abbrev s__law_moment : Stmt := topS 44
theorem sc__law_moment : FnScope ["_law_purse_here", "_law_a", "_law_b", "_law_c", "_law_under"] ["_law_purse_here"] (defScope s__law_moment) := ⟨rfl, rfl, rfl, by decide +kernel, rfl, by decide +kernel, by decide +kernel⟩
abbrev s__law_class : Stmt := topS 45
theorem sc__law_class : FnScope ["_law_error", "_law_got", "_law_one", "_law_words"] ["_law_error"] (defScope s__law_class) := ⟨rfl, rfl, rfl, by decide +kernel, rfl, by decide +kernel, by decide +kernel⟩
abbrev s__law_great : Stmt := topS 46
theorem sc__law_great : FnScope ["_law_purse_here"] ["_law_purse_here"] (defScope s__law_great) := ⟨rfl, rfl, rfl, by decide +kernel, rfl, by decide +kernel, by decide +kernel⟩
abbrev s__law_great_root : Stmt := topS 47
theorem sc__law_great_root : FnScope ["_law_purse_here", "_law_p", "_law_q", "_law_b", "_law_c", "_law_under"] ["_law_purse_here"] (defScope s__law_great_root) := ⟨rfl, rfl, rfl, by decide +kernel, rfl, by decide +kernel, by decide +kernel⟩
abbrev s__law_any : Stmt := topS 48
theorem sc__law_any : FnScope ["_law_purse_here", "_law_way"] ["_law_purse_here"] (defScope s__law_any) := ⟨rfl, rfl, rfl, by decide +kernel, rfl, by decide +kernel, by decide +kernel⟩
abbrev s__law_of_curve : Stmt := topS 49
theorem sc__law_of_curve : FnScope ["_law_curve", "_law_side", "_law_by_here", "_law_a", "_law_b", "_law_c", "_law_part"] ["_law_curve", "_law_side"] (defScope s__law_of_curve) := ⟨rfl, rfl, rfl, by decide +kernel, rfl, by decide +kernel, by decide +kernel⟩
abbrev s__law_moved : Stmt := topS 50
theorem sc__law_moved : FnScope ["_law_moment_here", "_law_by_here", "_law_a", "_law_b", "_law_c", "_law_number_here", "_law_steep", "_law_rest"] ["_law_moment_here", "_law_by_here"] (defScope s__law_moved) := ⟨rfl, rfl, rfl, by decide +kernel, rfl, by decide +kernel, by decide +kernel⟩
abbrev s__law_grown : Stmt := topS 51
theorem sc__law_grown : FnScope ["_law_moment_here", "_law_by_here", "_law_a", "_law_b", "_law_c", "_law_number_here", "_law_side"] ["_law_moment_here", "_law_by_here"] (defScope s__law_grown) := ⟨rfl, rfl, rfl, by decide +kernel, rfl, by decide +kernel, by decide +kernel⟩
abbrev s__law_told : Stmt := topS 52
theorem sc__law_told : FnScope ["_law_moment_here", "_law_by_here", "_law_caught", "_law_told_here", "e"] ["_law_moment_here", "_law_by_here"] (defScope s__law_told) := ⟨rfl, rfl, rfl, by decide +kernel, rfl, by decide +kernel, by decide +kernel⟩
abbrev s_law : Stmt := topS 53
theorem sc_law : FnScope ["_law_script", "_law_k", "_law_purse_here", "_law_moment_here", "_law_by_here", "_law_moved_here", "_law_grown_here"] ["_law_script"] (defScope s_law) := ⟨rfl, rfl, rfl, by decide +kernel, rfl, by decide +kernel, by decide +kernel⟩
/-- the greatest divisor -/
def pr_divisor : DSp := fun ds μ P _ => ∃ a b, ds = [.int a, .int b] ∧ P (.int (Int.gcd a b : Nat)) μ
theorem len_divisor : ∀ ds μ P PX, pr_divisor ds μ P PX → ds.length = (["one", "two"] : List Str).length := by
  rintro ds μ P PX ⟨a, b, rfl, _⟩
  rfl
theorem ok_divisor {P : Program} {w : World} {K : PySem.W.Frag} {mg : Str → Option Value} {base : Heap} {f : Addr} {fd : FuncData} (F : Fun K "divisor" "divisor" s_divisor f fd)
    (m_abs : mg "abs" = none) : FnOk P w K mg base (L2.CX P w) 1 f fd ["one", "two"] (spD K pr_divisor) := by
  have nd := sc_divisor.nd
  refine fn_D (k := 0) F sc_divisor len_divisor (by decide) (fun cdv A outer s H E PX hr tk hp => ⟨_, (sd_cons (sd_while hp (pt_ne hr.units (vr 1) pd_int)
       (sd_one (sd_par 0 1 rfl nd (da_cons (vr 1) (da_cons (pd_mod (vr 0) (vr 1)) da_nil)))))
      (sd_one (sd_ret (pd_abs rfl m_abs (da_cons (vr 0) da_nil)))))⟩) ?_
  rintro ds μ P PX ⟨a, b, rfl, h⟩
  refine ⟨fun m ρ μ' => ∃ x y, ρ = [some (.int x), some (.int y)] ∧ μ' = μ ∧ m = y.natAbs ∧ Int.gcd x y = Int.gcd a b, ⟨_, a, b, rfl, rfl, rfl, rfl⟩, ?_⟩
  rintro m ρ μ' ⟨x, y, rfl, rfl, rfl, e⟩
  (try simp only [↓r_wm1, ↓r_wm2, ↓r_wm3, ↓r_wm4, ↓r_forT, ↓r_forI, ↓r_fU0, ↓r_fU1, ↓r_turn, ↓r_yes, ↓r_ofrz, ↓r_oown, ↓r_w0, ↓r_w1, ↓r_w2, ↓r_w3, ↓r_w4, ↓r_lcT, ↓r_lcI, ↓r_lcR, ↓r_cU0, ↓r_cU1, ↓r_s0, ↓r_n0, ↓r_s1, ↓r_n1, ↓r_s2, ↓r_n2, ↓r_s3, ↓r_n3, ↓r_s4, ↓r_n4, ↓r_s5, ↓r_n5, ↓r_s6, ↓r_n6, ↓r_s7, ↓r_n7, ↓r_s8, ↓r_n8, ↓r_s9, ↓r_n9, ↓r_s10, ↓r_n10, ↓r_s11, ↓r_n11, ↓r_s12, ↓r_n12, ↓r_s13, ↓r_n13, ↓r_s14, ↓r_n14, ↓r_s15, ↓r_n15, ↓r_s16, ↓r_n16, ↓r_s17, ↓r_n17, ↓r_s18, ↓r_n18, ↓r_s19, ↓r_n19, ↓r_s20, ↓r_n20, ↓r_s21, ↓r_n21, ↓r_s22, ↓r_n22, ↓r_s23, ↓r_n23, ↓r_s24, ↓r_n24, ↓r_s25, ↓r_n25, ↓r_fr0, ↓r_fr1, ↓r_frL, ↓r_frN, ↓r_frNN, ↓r_max3, ↓r_seq, ↓r_next, ↓r_var0, ↓r_varS, ↓r_c, ↓r_op, ↓r_addI, ↓r_addS, ↓r_addT, ↓r_addL, ↓r_sub, ↓r_mul, ↓r_div, ↓r_mod, ↓r_pow, ↓r_lt, ↓r_le, ↓r_gt, ↓r_ge, ↓r_eqI, ↓r_neI, ↓r_isN, ↓r_isT, ↓r_isI, ↓r_isR, ↓r_inN, ↓r_inT, ↓r_inI, ↓r_ixT, ↓r_ixLs, ↓r_ixRo, ↓r_ixP, ↓r_at0, ↓r_at1, ↓r_at2, ↓r_at3, ↓r_neg, ↓r_negC, ↓r_b, ↓r_bl, ↓r_and, ↓r_or, ↓r_not, ↓r_andV, ↓r_orV, ↓r_notV, ↓r_bl', ↓r_if, ↓r_ifS, ↓r_asg, ↓r_name, ↓r_jnil, ↓r_jcons, ↓r_jtup, ↓r_jlst, ↓r_jlstP, ↓r_jsub, ↓r_jcut, ↓r_jcutP, ↓r_jcutA, ↓r_in2, ↓r_stP, ↓r_st0, ↓r_st1, ↓r_st2, ↓r_par, ↓r_ret, ↓r_retN, ↓r_drop, ↓r_brk, ↓r_cont, ↓r_raise, ↓r_nil, ↓r_cons, ↓r_tup, ↓r_lst, ↓r_new, ↓r_frz, ↓r_frzP, ↓r_cb, ↓r_call, ↓r_abs, ↓r_max, ↓r_min, ↓r_intI, ↓r_intB, ↓r_lenT, ↓r_lenL, ↓r_lenR, ↓r_lenP, ↓r_listL, ↓r_listR, ↓r_listOL, ↓r_tupleL, ↓r_tupleP, ↓r_isiII, ↓r_isiIB, ↓r_isiBI, ↓r_isiBB, ↓r_isiTT, ↓r_isiLL, ↓r_app, ↓r_appP, ↓r_clr, ↓r_clrP, ↓r_lstP, ↓r_cut, ↓r_onone, ↓r_osome, ↓r_int', ↓r_cutT, ↓r_cutLs, ↓r_cutP, ↓r_range1, ↓r_rg1, ↓rs0, ↓rsS, ↓ite_dec, ↓ite_ndec, ↓put_put, startD, List.length_cons, List.length_nil, and_assoc, and_true, true_and, and_self, or_self, or_false, false_or, or_true, true_or, decide_eq_true_eq, decide_true, decide_false, Bool.not_true, Bool.not_false, Bool.false_eq_true, if_true, if_false, ↓reduceIte, ne_eq, Nat.reduceLeDiff, Nat.reduceAdd, not_false_eq_true, not_true_eq_false, reduceCtorEq, Option.some.injEq, Int.reduceToNat, Int.reducePow, Int.reduceAdd, Int.reduceMul, Int.reduceSub, Int.reduceNeg, Int.reduceEq, List.nil_append, List.cons_append, ↓r_keep, ↓r_isExc, ↓r_indexM, ↓r_lstL, ↓r_eqF, ↓r_neF, ↓r_eqM, ↓r_neM, ↓r_isiFr, ↓r_eqB, ↓r_neB, beq_self_eq_true, ↓r_cutO, ↓r_cutOL, ↓r_cutOP])
  split
  · rename_i hy
    exact ⟨hy, _, fmod_lt hy, _, _, rfl, rfl, (gcd_fmod x y).trans e⟩
  · rename_i hy
    have hy' : y = 0 := Decidable.of_not_not hy
    rw [← e, hy', Int.gcd_zero] at h
    exact h
def pr_is_root : DSp := fun ds μ P _ => ∃ m : Mom, ds = [m.d] ∧ P (.bl (match m with | .q _ => false | .r _ _ _ _ => true)) μ
theorem len_is_root : ∀ ds μ P PX, pr_is_root ds μ P PX → ds.length = (["moment"] : List Str).length := by
  rintro ds μ P PX ⟨m, rfl, _⟩
  rfl
theorem ok_is_root {P : Program} {w : World} {K : PySem.W.Frag} {mg : Str → Option Value} {base : Heap} {f : Addr} {fd : FuncData} (F : Fun K "is_root" "is_root" s_is_root f fd)
    (m_len : mg "len" = none) : FnOk P w K mg base (L2.CX P w) 1 f fd ["moment"] (spD K pr_is_root) := by
  have nd := sc_is_root.nd
  refine fn_D (k := 0) F sc_is_root len_is_root (by decide) (fun cdv A outer s H E PX hr tk hp => ⟨_, (sd_one (sd_ret (pd_eq hr.units (pd_len (by rfl) m_len (da_cons (vr 0) da_nil)) pd_int)))⟩) ?_
  rintro ds μ P PX ⟨m, rfl, h⟩
  cases m with
  | q f =>
    simp only [Mom.d]
    (try simp only [↓r_wm1, ↓r_wm2, ↓r_wm3, ↓r_wm4, ↓r_forT, ↓r_forI, ↓r_fU0, ↓r_fU1, ↓r_turn, ↓r_yes, ↓r_ofrz, ↓r_oown, ↓r_w0, ↓r_w1, ↓r_w2, ↓r_w3, ↓r_w4, ↓r_lcT, ↓r_lcI, ↓r_lcR, ↓r_cU0, ↓r_cU1, ↓r_s0, ↓r_n0, ↓r_s1, ↓r_n1, ↓r_s2, ↓r_n2, ↓r_s3, ↓r_n3, ↓r_s4, ↓r_n4, ↓r_s5, ↓r_n5, ↓r_s6, ↓r_n6, ↓r_s7, ↓r_n7, ↓r_s8, ↓r_n8, ↓r_s9, ↓r_n9, ↓r_s10, ↓r_n10, ↓r_s11, ↓r_n11, ↓r_s12, ↓r_n12, ↓r_s13, ↓r_n13, ↓r_s14, ↓r_n14, ↓r_s15, ↓r_n15, ↓r_s16, ↓r_n16, ↓r_s17, ↓r_n17, ↓r_s18, ↓r_n18, ↓r_s19, ↓r_n19, ↓r_s20, ↓r_n20, ↓r_s21, ↓r_n21, ↓r_s22, ↓r_n22, ↓r_s23, ↓r_n23, ↓r_s24, ↓r_n24, ↓r_s25, ↓r_n25, ↓r_fr0, ↓r_fr1, ↓r_frL, ↓r_frN, ↓r_frNN, ↓r_max3, ↓r_seq, ↓r_next, ↓r_var0, ↓r_varS, ↓r_c, ↓r_op, ↓r_addI, ↓r_addS, ↓r_addT, ↓r_addL, ↓r_sub, ↓r_mul, ↓r_div, ↓r_mod, ↓r_pow, ↓r_lt, ↓r_le, ↓r_gt, ↓r_ge, ↓r_eqI, ↓r_neI, ↓r_isN, ↓r_isT, ↓r_isI, ↓r_isR, ↓r_inN, ↓r_inT, ↓r_inI, ↓r_ixT, ↓r_ixLs, ↓r_ixRo, ↓r_ixP, ↓r_at0, ↓r_at1, ↓r_at2, ↓r_at3, ↓r_neg, ↓r_negC, ↓r_b, ↓r_bl, ↓r_and, ↓r_or, ↓r_not, ↓r_andV, ↓r_orV, ↓r_notV, ↓r_bl', ↓r_if, ↓r_ifS, ↓r_asg, ↓r_name, ↓r_jnil, ↓r_jcons, ↓r_jtup, ↓r_jlst, ↓r_jlstP, ↓r_jsub, ↓r_jcut, ↓r_jcutP, ↓r_jcutA, ↓r_in2, ↓r_stP, ↓r_st0, ↓r_st1, ↓r_st2, ↓r_par, ↓r_ret, ↓r_retN, ↓r_drop, ↓r_brk, ↓r_cont, ↓r_raise, ↓r_nil, ↓r_cons, ↓r_tup, ↓r_lst, ↓r_new, ↓r_frz, ↓r_frzP, ↓r_cb, ↓r_call, ↓r_abs, ↓r_max, ↓r_min, ↓r_intI, ↓r_intB, ↓r_lenT, ↓r_lenL, ↓r_lenR, ↓r_lenP, ↓r_listL, ↓r_listR, ↓r_listOL, ↓r_tupleL, ↓r_tupleP, ↓r_isiII, ↓r_isiIB, ↓r_isiBI, ↓r_isiBB, ↓r_isiTT, ↓r_isiLL, ↓r_app, ↓r_appP, ↓r_clr, ↓r_clrP, ↓r_lstP, ↓r_cut, ↓r_onone, ↓r_osome, ↓r_int', ↓r_cutT, ↓r_cutLs, ↓r_cutP, ↓r_range1, ↓r_rg1, ↓rs0, ↓rsS, ↓ite_dec, ↓ite_ndec, ↓put_put, startD, List.length_cons, List.length_nil, and_assoc, and_true, true_and, and_self, or_self, or_false, false_or, or_true, true_or, decide_eq_true_eq, decide_true, decide_false, Bool.not_true, Bool.not_false, Bool.false_eq_true, if_true, if_false, ↓reduceIte, ne_eq, Nat.reduceLeDiff, Nat.reduceAdd, not_false_eq_true, not_true_eq_false, reduceCtorEq, Option.some.injEq, Int.reduceToNat, Int.reducePow, Int.reduceAdd, Int.reduceMul, Int.reduceSub, Int.reduceNeg, Int.reduceEq, List.nil_append, List.cons_append, ↓r_keep, ↓r_isExc, ↓r_indexM, ↓r_lstL, ↓r_eqF, ↓r_neF, ↓r_eqM, ↓r_neM, ↓r_isiFr, ↓r_eqB, ↓r_neB, beq_self_eq_true, ↓r_cutO, ↓r_cutOL, ↓r_cutOP])
    exact h
  | r a b c s =>
    simp only [Mom.d]
    (try simp only [↓r_wm1, ↓r_wm2, ↓r_wm3, ↓r_wm4, ↓r_forT, ↓r_forI, ↓r_fU0, ↓r_fU1, ↓r_turn, ↓r_yes, ↓r_ofrz, ↓r_oown, ↓r_w0, ↓r_w1, ↓r_w2, ↓r_w3, ↓r_w4, ↓r_lcT, ↓r_lcI, ↓r_lcR, ↓r_cU0, ↓r_cU1, ↓r_s0, ↓r_n0, ↓r_s1, ↓r_n1, ↓r_s2, ↓r_n2, ↓r_s3, ↓r_n3, ↓r_s4, ↓r_n4, ↓r_s5, ↓r_n5, ↓r_s6, ↓r_n6, ↓r_s7, ↓r_n7, ↓r_s8, ↓r_n8, ↓r_s9, ↓r_n9, ↓r_s10, ↓r_n10, ↓r_s11, ↓r_n11, ↓r_s12, ↓r_n12, ↓r_s13, ↓r_n13, ↓r_s14, ↓r_n14, ↓r_s15, ↓r_n15, ↓r_s16, ↓r_n16, ↓r_s17, ↓r_n17, ↓r_s18, ↓r_n18, ↓r_s19, ↓r_n19, ↓r_s20, ↓r_n20, ↓r_s21, ↓r_n21, ↓r_s22, ↓r_n22, ↓r_s23, ↓r_n23, ↓r_s24, ↓r_n24, ↓r_s25, ↓r_n25, ↓r_fr0, ↓r_fr1, ↓r_frL, ↓r_frN, ↓r_frNN, ↓r_max3, ↓r_seq, ↓r_next, ↓r_var0, ↓r_varS, ↓r_c, ↓r_op, ↓r_addI, ↓r_addS, ↓r_addT, ↓r_addL, ↓r_sub, ↓r_mul, ↓r_div, ↓r_mod, ↓r_pow, ↓r_lt, ↓r_le, ↓r_gt, ↓r_ge, ↓r_eqI, ↓r_neI, ↓r_isN, ↓r_isT, ↓r_isI, ↓r_isR, ↓r_inN, ↓r_inT, ↓r_inI, ↓r_ixT, ↓r_ixLs, ↓r_ixRo, ↓r_ixP, ↓r_at0, ↓r_at1, ↓r_at2, ↓r_at3, ↓r_neg, ↓r_negC, ↓r_b, ↓r_bl, ↓r_and, ↓r_or, ↓r_not, ↓r_andV, ↓r_orV, ↓r_notV, ↓r_bl', ↓r_if, ↓r_ifS, ↓r_asg, ↓r_name, ↓r_jnil, ↓r_jcons, ↓r_jtup, ↓r_jlst, ↓r_jlstP, ↓r_jsub, ↓r_jcut, ↓r_jcutP, ↓r_jcutA, ↓r_in2, ↓r_stP, ↓r_st0, ↓r_st1, ↓r_st2, ↓r_par, ↓r_ret, ↓r_retN, ↓r_drop, ↓r_brk, ↓r_cont, ↓r_raise, ↓r_nil, ↓r_cons, ↓r_tup, ↓r_lst, ↓r_new, ↓r_frz, ↓r_frzP, ↓r_cb, ↓r_call, ↓r_abs, ↓r_max, ↓r_min, ↓r_intI, ↓r_intB, ↓r_lenT, ↓r_lenL, ↓r_lenR, ↓r_lenP, ↓r_listL, ↓r_listR, ↓r_listOL, ↓r_tupleL, ↓r_tupleP, ↓r_isiII, ↓r_isiIB, ↓r_isiBI, ↓r_isiBB, ↓r_isiTT, ↓r_isiLL, ↓r_app, ↓r_appP, ↓r_clr, ↓r_clrP, ↓r_lstP, ↓r_cut, ↓r_onone, ↓r_osome, ↓r_int', ↓r_cutT, ↓r_cutLs, ↓r_cutP, ↓r_range1, ↓r_rg1, ↓rs0, ↓rsS, ↓ite_dec, ↓ite_ndec, ↓put_put, startD, List.length_cons, List.length_nil, and_assoc, and_true, true_and, and_self, or_self, or_false, false_or, or_true, true_or, decide_eq_true_eq, decide_true, decide_false, Bool.not_true, Bool.not_false, Bool.false_eq_true, if_true, if_false, ↓reduceIte, ne_eq, Nat.reduceLeDiff, Nat.reduceAdd, not_false_eq_true, not_true_eq_false, reduceCtorEq, Option.some.injEq, Int.reduceToNat, Int.reducePow, Int.reduceAdd, Int.reduceMul, Int.reduceSub, Int.reduceNeg, Int.reduceEq, List.nil_append, List.cons_append, ↓r_keep, ↓r_isExc, ↓r_indexM, ↓r_lstL, ↓r_eqF, ↓r_neF, ↓r_eqM, ↓r_neM, ↓r_isiFr, ↓r_eqB, ↓r_neB, beq_self_eq_true, ↓r_cutO, ↓r_cutOL, ↓r_cutOP])
    exact h
def pr_fractions_of : DSp := fun ds μ P _ => ∃ a b c : Int, ds = [.tup [.int a, .int b, .int c]] ∧ P (.tup [fr (a, 1), fr (b, 1), fr (c, 1)]) μ
theorem len_fractions_of : ∀ ds μ P PX, pr_fractions_of ds μ P PX → ds.length = (["numbers"] : List Str).length := by
  rintro ds μ P PX ⟨a, b, c, rfl, _⟩
  rfl
theorem ok_fractions_of {P : Program} {w : World} {K : PySem.W.Frag} {mg : Str → Option Value} {base : Heap} {f : Addr} {fd : FuncData} (F : Fun K "fractions_of" "fractions_of" s_fractions_of f fd)
    (m_tuple : mg "tuple" = none) : FnOk P w K mg base (L2.CX P w) 1 f fd ["numbers"] (spD K pr_fractions_of) := by
  have nd := sc_fractions_of.nd
  refine fn_D (k := 0) F sc_fractions_of len_fractions_of (by decide) (fun cdv A outer s H E PX hr tk hp => ⟨_, (sd_one (sd_ret (pd_tuple rfl m_tuple (da_cons (pd_lcT rfl nd out_frz (vr 0) (own := [("number", 1)]) ⟨blkOk_by (own := [("number", 1)]) (N := ["numbers", "number"]) (sc := defScope s_fractions_of) (by decide +kernel), fun _ _ _ _ _ => (pg_name (i := 1) nd rfl (by first | exact Or.inl rfl | exact Or.inr rfl)), (hv_name 1 (by decide)), fun _ _ _ _ _ => dts_nil, fun _ _ _ _ _ => (pd_tup (da_cons (vr 1) (da_cons pd_int da_nil)))⟩) da_nil))))⟩) ?_
  rintro ds μ P PX ⟨a, b, c, rfl, h⟩
  (try simp only [↓r_wm1, ↓r_wm2, ↓r_wm3, ↓r_wm4, ↓r_forT, ↓r_forI, ↓r_fU0, ↓r_fU1, ↓r_turn, ↓r_yes, ↓r_ofrz, ↓r_oown, ↓r_w0, ↓r_w1, ↓r_w2, ↓r_w3, ↓r_w4, ↓r_lcT, ↓r_lcI, ↓r_lcR, ↓r_cU0, ↓r_cU1, ↓r_s0, ↓r_n0, ↓r_s1, ↓r_n1, ↓r_s2, ↓r_n2, ↓r_s3, ↓r_n3, ↓r_s4, ↓r_n4, ↓r_s5, ↓r_n5, ↓r_s6, ↓r_n6, ↓r_s7, ↓r_n7, ↓r_s8, ↓r_n8, ↓r_s9, ↓r_n9, ↓r_s10, ↓r_n10, ↓r_s11, ↓r_n11, ↓r_s12, ↓r_n12, ↓r_s13, ↓r_n13, ↓r_s14, ↓r_n14, ↓r_s15, ↓r_n15, ↓r_s16, ↓r_n16, ↓r_s17, ↓r_n17, ↓r_s18, ↓r_n18, ↓r_s19, ↓r_n19, ↓r_s20, ↓r_n20, ↓r_s21, ↓r_n21, ↓r_s22, ↓r_n22, ↓r_s23, ↓r_n23, ↓r_s24, ↓r_n24, ↓r_s25, ↓r_n25, ↓r_fr0, ↓r_fr1, ↓r_frL, ↓r_frN, ↓r_frNN, ↓r_max3, ↓r_seq, ↓r_next, ↓r_var0, ↓r_varS, ↓r_c, ↓r_op, ↓r_addI, ↓r_addS, ↓r_addT, ↓r_addL, ↓r_sub, ↓r_mul, ↓r_div, ↓r_mod, ↓r_pow, ↓r_lt, ↓r_le, ↓r_gt, ↓r_ge, ↓r_eqI, ↓r_neI, ↓r_isN, ↓r_isT, ↓r_isI, ↓r_isR, ↓r_inN, ↓r_inT, ↓r_inI, ↓r_ixT, ↓r_ixLs, ↓r_ixRo, ↓r_ixP, ↓r_at0, ↓r_at1, ↓r_at2, ↓r_at3, ↓r_neg, ↓r_negC, ↓r_b, ↓r_bl, ↓r_and, ↓r_or, ↓r_not, ↓r_andV, ↓r_orV, ↓r_notV, ↓r_bl', ↓r_if, ↓r_ifS, ↓r_asg, ↓r_name, ↓r_jnil, ↓r_jcons, ↓r_jtup, ↓r_jlst, ↓r_jlstP, ↓r_jsub, ↓r_jcut, ↓r_jcutP, ↓r_jcutA, ↓r_in2, ↓r_stP, ↓r_st0, ↓r_st1, ↓r_st2, ↓r_par, ↓r_ret, ↓r_retN, ↓r_drop, ↓r_brk, ↓r_cont, ↓r_raise, ↓r_nil, ↓r_cons, ↓r_tup, ↓r_lst, ↓r_new, ↓r_frz, ↓r_frzP, ↓r_cb, ↓r_call, ↓r_abs, ↓r_max, ↓r_min, ↓r_intI, ↓r_intB, ↓r_lenT, ↓r_lenL, ↓r_lenR, ↓r_lenP, ↓r_listL, ↓r_listR, ↓r_listOL, ↓r_tupleL, ↓r_tupleP, ↓r_isiII, ↓r_isiIB, ↓r_isiBI, ↓r_isiBB, ↓r_isiTT, ↓r_isiLL, ↓r_app, ↓r_appP, ↓r_clr, ↓r_clrP, ↓r_lstP, ↓r_cut, ↓r_onone, ↓r_osome, ↓r_int', ↓r_cutT, ↓r_cutLs, ↓r_cutP, ↓r_range1, ↓r_rg1, ↓rs0, ↓rsS, ↓ite_dec, ↓ite_ndec, ↓put_put, startD, List.length_cons, List.length_nil, and_assoc, and_true, true_and, and_self, or_self, or_false, false_or, or_true, true_or, decide_eq_true_eq, decide_true, decide_false, Bool.not_true, Bool.not_false, Bool.false_eq_true, if_true, if_false, ↓reduceIte, ne_eq, Nat.reduceLeDiff, Nat.reduceAdd, not_false_eq_true, not_true_eq_false, reduceCtorEq, Option.some.injEq, Int.reduceToNat, Int.reducePow, Int.reduceAdd, Int.reduceMul, Int.reduceSub, Int.reduceNeg, Int.reduceEq, List.nil_append, List.cons_append, ↓r_keep, ↓r_isExc, ↓r_indexM, ↓r_lstL, ↓r_eqF, ↓r_neF, ↓r_eqM, ↓r_neM, ↓r_isiFr, ↓r_eqB, ↓r_neB, beq_self_eq_true, ↓r_cutO, ↓r_cutOL, ↓r_cutOP])
  refine lcT_u (by show 3 ≤ 100000; decide) ?_
  (try simp only [↓r_wm1, ↓r_wm2, ↓r_wm3, ↓r_wm4, ↓r_forT, ↓r_forI, ↓r_fU0, ↓r_fU1, ↓r_turn, ↓r_yes, ↓r_ofrz, ↓r_oown, ↓r_w0, ↓r_w1, ↓r_w2, ↓r_w3, ↓r_w4, ↓r_lcT, ↓r_lcI, ↓r_lcR, ↓r_cU0, ↓r_cU1, ↓r_s0, ↓r_n0, ↓r_s1, ↓r_n1, ↓r_s2, ↓r_n2, ↓r_s3, ↓r_n3, ↓r_s4, ↓r_n4, ↓r_s5, ↓r_n5, ↓r_s6, ↓r_n6, ↓r_s7, ↓r_n7, ↓r_s8, ↓r_n8, ↓r_s9, ↓r_n9, ↓r_s10, ↓r_n10, ↓r_s11, ↓r_n11, ↓r_s12, ↓r_n12, ↓r_s13, ↓r_n13, ↓r_s14, ↓r_n14, ↓r_s15, ↓r_n15, ↓r_s16, ↓r_n16, ↓r_s17, ↓r_n17, ↓r_s18, ↓r_n18, ↓r_s19, ↓r_n19, ↓r_s20, ↓r_n20, ↓r_s21, ↓r_n21, ↓r_s22, ↓r_n22, ↓r_s23, ↓r_n23, ↓r_s24, ↓r_n24, ↓r_s25, ↓r_n25, ↓r_fr0, ↓r_fr1, ↓r_frL, ↓r_frN, ↓r_frNN, ↓r_max3, ↓r_seq, ↓r_next, ↓r_var0, ↓r_varS, ↓r_c, ↓r_op, ↓r_addI, ↓r_addS, ↓r_addT, ↓r_addL, ↓r_sub, ↓r_mul, ↓r_div, ↓r_mod, ↓r_pow, ↓r_lt, ↓r_le, ↓r_gt, ↓r_ge, ↓r_eqI, ↓r_neI, ↓r_isN, ↓r_isT, ↓r_isI, ↓r_isR, ↓r_inN, ↓r_inT, ↓r_inI, ↓r_ixT, ↓r_ixLs, ↓r_ixRo, ↓r_ixP, ↓r_at0, ↓r_at1, ↓r_at2, ↓r_at3, ↓r_neg, ↓r_negC, ↓r_b, ↓r_bl, ↓r_and, ↓r_or, ↓r_not, ↓r_andV, ↓r_orV, ↓r_notV, ↓r_bl', ↓r_if, ↓r_ifS, ↓r_asg, ↓r_name, ↓r_jnil, ↓r_jcons, ↓r_jtup, ↓r_jlst, ↓r_jlstP, ↓r_jsub, ↓r_jcut, ↓r_jcutP, ↓r_jcutA, ↓r_in2, ↓r_stP, ↓r_st0, ↓r_st1, ↓r_st2, ↓r_par, ↓r_ret, ↓r_retN, ↓r_drop, ↓r_brk, ↓r_cont, ↓r_raise, ↓r_nil, ↓r_cons, ↓r_tup, ↓r_lst, ↓r_new, ↓r_frz, ↓r_frzP, ↓r_cb, ↓r_call, ↓r_abs, ↓r_max, ↓r_min, ↓r_intI, ↓r_intB, ↓r_lenT, ↓r_lenL, ↓r_lenR, ↓r_lenP, ↓r_listL, ↓r_listR, ↓r_listOL, ↓r_tupleL, ↓r_tupleP, ↓r_isiII, ↓r_isiIB, ↓r_isiBI, ↓r_isiBB, ↓r_isiTT, ↓r_isiLL, ↓r_app, ↓r_appP, ↓r_clr, ↓r_clrP, ↓r_lstP, ↓r_cut, ↓r_onone, ↓r_osome, ↓r_int', ↓r_cutT, ↓r_cutLs, ↓r_cutP, ↓r_range1, ↓r_rg1, ↓rs0, ↓rsS, ↓ite_dec, ↓ite_ndec, ↓put_put, startD, List.length_cons, List.length_nil, and_assoc, and_true, true_and, and_self, or_self, or_false, false_or, or_true, true_or, decide_eq_true_eq, decide_true, decide_false, Bool.not_true, Bool.not_false, Bool.false_eq_true, if_true, if_false, ↓reduceIte, ne_eq, Nat.reduceLeDiff, Nat.reduceAdd, not_false_eq_true, not_true_eq_false, reduceCtorEq, Option.some.injEq, Int.reduceToNat, Int.reducePow, Int.reduceAdd, Int.reduceMul, Int.reduceSub, Int.reduceNeg, Int.reduceEq, List.nil_append, List.cons_append, ↓r_keep, ↓r_isExc, ↓r_indexM, ↓r_lstL, ↓r_eqF, ↓r_neF, ↓r_eqM, ↓r_neM, ↓r_isiFr, ↓r_eqB, ↓r_neB, beq_self_eq_true, ↓r_cutO, ↓r_cutOL, ↓r_cutOP])
  exact h
/-- where a drawn number lies -/
def pr__law_mixed : DSp := fun ds μ P _ => ∃ c k, ds = [.int c, .int k] ∧ Bd 400000 k ∧ ∀ r, 0 ≤ r → r < 10 ^ 60 + 7 → P (.int r) μ
theorem len__law_mixed : ∀ ds μ P PX, pr__law_mixed ds μ P PX → ds.length = (["_law_cell", "_law_k"] : List Str).length := by
  rintro ds μ P PX ⟨a, b, rfl, _⟩
  rfl
theorem ok__law_mixed {P : Program} {w : World} {K : PySem.W.Frag} {mg : Str → Option Value} {base : Heap} {f : Addr} {fd : FuncData} (F : Fun K "_law_mixed" "_law_mixed" s__law_mixed f fd) : FnOk P w K mg base (L2.CX P w) 1 f fd ["_law_cell", "_law_k"] (spD K pr__law_mixed) := by
  have nd := sc__law_mixed.nd
  refine fn_D (k := 0) F sc__law_mixed len__law_mixed (by decide) (fun cdv A outer s H E PX hr tk hp => ⟨_, (sd_cons (sd_set 2 nd (pd_add (pd_add (pd_mul (pd_add (pd_mod (vr 0) (pd_add (pd_pow pd_int pd_int) pd_int)) (pd_mul pd_int (vr 1))) pd_int) (pd_mul pd_int (vr 1))) pd_int))
      (sd_cons (sd_set 2 nd (pd_mod (pd_mul (vr 2) (vr 2)) (pd_add (pd_pow pd_int pd_int) pd_int)))
      (sd_one (sd_ret (pd_mod (pd_mul (pd_add (vr 2) pd_int) (pd_add (vr 2) pd_int)) (pd_add (pd_pow pd_int pd_int) pd_int))))))⟩) ?_
  rintro ds μ P PX ⟨a, b, rfl, hk, h⟩
  have c1 : PowC 10 18 := powC 4
  have c2 : PowC 10 60 := powC 4
  (try simp only [↓r_wm1, ↓r_wm2, ↓r_wm3, ↓r_wm4, ↓r_forT, ↓r_forI, ↓r_fU0, ↓r_fU1, ↓r_turn, ↓r_yes, ↓r_ofrz, ↓r_oown, ↓r_w0, ↓r_w1, ↓r_w2, ↓r_w3, ↓r_w4, ↓r_lcT, ↓r_lcI, ↓r_lcR, ↓r_cU0, ↓r_cU1, ↓r_s0, ↓r_n0, ↓r_s1, ↓r_n1, ↓r_s2, ↓r_n2, ↓r_s3, ↓r_n3, ↓r_s4, ↓r_n4, ↓r_s5, ↓r_n5, ↓r_s6, ↓r_n6, ↓r_s7, ↓r_n7, ↓r_s8, ↓r_n8, ↓r_s9, ↓r_n9, ↓r_s10, ↓r_n10, ↓r_s11, ↓r_n11, ↓r_s12, ↓r_n12, ↓r_s13, ↓r_n13, ↓r_s14, ↓r_n14, ↓r_s15, ↓r_n15, ↓r_s16, ↓r_n16, ↓r_s17, ↓r_n17, ↓r_s18, ↓r_n18, ↓r_s19, ↓r_n19, ↓r_s20, ↓r_n20, ↓r_s21, ↓r_n21, ↓r_s22, ↓r_n22, ↓r_s23, ↓r_n23, ↓r_s24, ↓r_n24, ↓r_s25, ↓r_n25, ↓r_fr0, ↓r_fr1, ↓r_frL, ↓r_frN, ↓r_frNN, ↓r_max3, ↓r_seq, ↓r_next, ↓r_var0, ↓r_varS, ↓r_c, ↓r_op, ↓r_addI, ↓r_addS, ↓r_addT, ↓r_addL, ↓r_sub, ↓r_mul, ↓r_div, ↓r_mod, ↓r_pow, ↓r_lt, ↓r_le, ↓r_gt, ↓r_ge, ↓r_eqI, ↓r_neI, ↓r_isN, ↓r_isT, ↓r_isI, ↓r_isR, ↓r_inN, ↓r_inT, ↓r_inI, ↓r_ixT, ↓r_ixLs, ↓r_ixRo, ↓r_ixP, ↓r_at0, ↓r_at1, ↓r_at2, ↓r_at3, ↓r_neg, ↓r_negC, ↓r_b, ↓r_bl, ↓r_and, ↓r_or, ↓r_not, ↓r_andV, ↓r_orV, ↓r_notV, ↓r_bl', ↓r_if, ↓r_ifS, ↓r_asg, ↓r_name, ↓r_jnil, ↓r_jcons, ↓r_jtup, ↓r_jlst, ↓r_jlstP, ↓r_jsub, ↓r_jcut, ↓r_jcutP, ↓r_jcutA, ↓r_in2, ↓r_stP, ↓r_st0, ↓r_st1, ↓r_st2, ↓r_par, ↓r_ret, ↓r_retN, ↓r_drop, ↓r_brk, ↓r_cont, ↓r_raise, ↓r_nil, ↓r_cons, ↓r_tup, ↓r_lst, ↓r_new, ↓r_frz, ↓r_frzP, ↓r_cb, ↓r_call, ↓r_abs, ↓r_max, ↓r_min, ↓r_intI, ↓r_intB, ↓r_lenT, ↓r_lenL, ↓r_lenR, ↓r_lenP, ↓r_listL, ↓r_listR, ↓r_listOL, ↓r_tupleL, ↓r_tupleP, ↓r_isiII, ↓r_isiIB, ↓r_isiBI, ↓r_isiBB, ↓r_isiTT, ↓r_isiLL, ↓r_app, ↓r_appP, ↓r_clr, ↓r_clrP, ↓r_lstP, ↓r_cut, ↓r_onone, ↓r_osome, ↓r_int', ↓r_cutT, ↓r_cutLs, ↓r_cutP, ↓r_range1, ↓r_rg1, ↓rs0, ↓rsS, ↓ite_dec, ↓ite_ndec, ↓put_put, startD, List.length_cons, List.length_nil, and_assoc, and_true, true_and, and_self, or_self, or_false, false_or, or_true, true_or, decide_eq_true_eq, decide_true, decide_false, Bool.not_true, Bool.not_false, Bool.false_eq_true, if_true, if_false, ↓reduceIte, ne_eq, Nat.reduceLeDiff, Nat.reduceAdd, not_false_eq_true, not_true_eq_false, reduceCtorEq, Option.some.injEq, Int.reduceToNat, Int.reducePow, Int.reduceAdd, Int.reduceMul, Int.reduceSub, Int.reduceNeg, Int.reduceEq, List.nil_append, List.cons_append, ↓r_keep, ↓r_isExc, ↓r_indexM, ↓r_lstL, ↓r_eqF, ↓r_neF, ↓r_eqM, ↓r_neM, ↓r_isiFr, ↓r_eqB, ↓r_neB, beq_self_eq_true, ↓r_cutO, ↓r_cutOL, ↓r_cutOP, c1, c2])
  have b7 : Bd 3 7 := by decide
  have b1 : Bd 60 (a.fmod 1000000000000000009) := by
    have := fmod_rng (x := a) (y := 1000000000000000009) (by decide)
    exact Bd.rng this.1 this.2 (by decide)
  have b2 : Bd 100 739108512309184756019283746561 := by decide
  have b3 : Bd 13 7919 := by decide
  have b4 := b1.add (b7.mul hk)
  have b5 := ((b4.mul b2).add (b3.mul hk)).add (show Bd 1 1 by decide)
  have b6 : ∀ x : Int, Bd 200 (x.fmod 1000000000000000000000000000000000000000000000000000000000007) := fun x => by
    have := fmod_rng (x := x) (y := 1000000000000000000000000000000000000000000000000000000000007) (by decide)
    exact Bd.rng this.1 this.2 (by decide)
  refine ⟨mulC b7 hk, mulC b4 b2, mulC b3 hk, mulC b5 b5, mulC ((b6 _).add (show Bd 16 40503 by decide)) ((b6 _).add (show Bd 6 57 by decide)), ?_⟩
  have k : ∀ x : Int, P (.int (x.fmod 1000000000000000000000000000000000000000000000000000000000007)) μ := fun x => by
    have := fmod_rng (x := x) (y := 1000000000000000000000000000000000000000000000000000000000007) (by decide)
    exact h _ this.1 this.2
  exact k _
def pr__law_at : DSp := fun ds μ P _ => ∃ (xs : List Int) (k : Int), ds = [.ro (xs.map D.int), .int k] ∧ 0 ≤ k ∧ k ≤ 1000 ∧ ∀ r, P (.int r) μ
theorem len__law_at : ∀ ds μ P PX, pr__law_at ds μ P PX → ds.length = (["_law_script", "_law_k"] : List Str).length := by
  rintro ds μ P PX ⟨p, many, rfl, _⟩
  rfl
theorem ok__law_at {P : Program} {w : World} {K : PySem.W.Frag} {mg : Str → Option Value} {base : Heap} {f : Addr} {fd : FuncData} (F : Fun K "_law_at" "_law_at" s__law_at f fd)
    (m_len : mg "len" = none) : FnOk P w K mg base (L2.CX P w) 1 f fd ["_law_script", "_law_k"] (spD K pr__law_at) := by
  have nd := sc__law_at.nd
  refine fn_D (k := 0) F sc__law_at len__law_at (by decide) (fun cdv A outer s H E PX hr tk hp => ⟨_, (sd_cons (sd_if (pt_lt (vr 1) (pd_len (by rfl) m_len (da_cons (vr 0) da_nil)))
       (sd_one (sd_ret (pd_ix (vr 0) (vr 1))))
       sd_nil)
      (sd_one (sd_ret (pd_add (pd_mul pd_int (vr 1)) pd_int))))⟩) ?_
  rintro ds μ P PX ⟨xs, k, rfl, h0, h1, h⟩
  (try simp only [↓r_wm1, ↓r_wm2, ↓r_wm3, ↓r_wm4, ↓r_forT, ↓r_forI, ↓r_fU0, ↓r_fU1, ↓r_turn, ↓r_yes, ↓r_ofrz, ↓r_oown, ↓r_w0, ↓r_w1, ↓r_w2, ↓r_w3, ↓r_w4, ↓r_lcT, ↓r_lcI, ↓r_lcR, ↓r_cU0, ↓r_cU1, ↓r_s0, ↓r_n0, ↓r_s1, ↓r_n1, ↓r_s2, ↓r_n2, ↓r_s3, ↓r_n3, ↓r_s4, ↓r_n4, ↓r_s5, ↓r_n5, ↓r_s6, ↓r_n6, ↓r_s7, ↓r_n7, ↓r_s8, ↓r_n8, ↓r_s9, ↓r_n9, ↓r_s10, ↓r_n10, ↓r_s11, ↓r_n11, ↓r_s12, ↓r_n12, ↓r_s13, ↓r_n13, ↓r_s14, ↓r_n14, ↓r_s15, ↓r_n15, ↓r_s16, ↓r_n16, ↓r_s17, ↓r_n17, ↓r_s18, ↓r_n18, ↓r_s19, ↓r_n19, ↓r_s20, ↓r_n20, ↓r_s21, ↓r_n21, ↓r_s22, ↓r_n22, ↓r_s23, ↓r_n23, ↓r_s24, ↓r_n24, ↓r_s25, ↓r_n25, ↓r_fr0, ↓r_fr1, ↓r_frL, ↓r_frN, ↓r_frNN, ↓r_max3, ↓r_seq, ↓r_next, ↓r_var0, ↓r_varS, ↓r_c, ↓r_op, ↓r_addI, ↓r_addS, ↓r_addT, ↓r_addL, ↓r_sub, ↓r_mul, ↓r_div, ↓r_mod, ↓r_pow, ↓r_lt, ↓r_le, ↓r_gt, ↓r_ge, ↓r_eqI, ↓r_neI, ↓r_isN, ↓r_isT, ↓r_isI, ↓r_isR, ↓r_inN, ↓r_inT, ↓r_inI, ↓r_ixT, ↓r_ixLs, ↓r_ixRo, ↓r_ixP, ↓r_at0, ↓r_at1, ↓r_at2, ↓r_at3, ↓r_neg, ↓r_negC, ↓r_b, ↓r_bl, ↓r_and, ↓r_or, ↓r_not, ↓r_andV, ↓r_orV, ↓r_notV, ↓r_bl', ↓r_if, ↓r_ifS, ↓r_asg, ↓r_name, ↓r_jnil, ↓r_jcons, ↓r_jtup, ↓r_jlst, ↓r_jlstP, ↓r_jsub, ↓r_jcut, ↓r_jcutP, ↓r_jcutA, ↓r_in2, ↓r_stP, ↓r_st0, ↓r_st1, ↓r_st2, ↓r_par, ↓r_ret, ↓r_retN, ↓r_drop, ↓r_brk, ↓r_cont, ↓r_raise, ↓r_nil, ↓r_cons, ↓r_tup, ↓r_lst, ↓r_new, ↓r_frz, ↓r_frzP, ↓r_cb, ↓r_call, ↓r_abs, ↓r_max, ↓r_min, ↓r_intI, ↓r_intB, ↓r_lenT, ↓r_lenL, ↓r_lenR, ↓r_lenP, ↓r_listL, ↓r_listR, ↓r_listOL, ↓r_tupleL, ↓r_tupleP, ↓r_isiII, ↓r_isiIB, ↓r_isiBI, ↓r_isiBB, ↓r_isiTT, ↓r_isiLL, ↓r_app, ↓r_appP, ↓r_clr, ↓r_clrP, ↓r_lstP, ↓r_cut, ↓r_onone, ↓r_osome, ↓r_int', ↓r_cutT, ↓r_cutLs, ↓r_cutP, ↓r_range1, ↓r_rg1, ↓rs0, ↓rsS, ↓ite_dec, ↓ite_ndec, ↓put_put, startD, List.length_cons, List.length_nil, and_assoc, and_true, true_and, and_self, or_self, or_false, false_or, or_true, true_or, decide_eq_true_eq, decide_true, decide_false, Bool.not_true, Bool.not_false, Bool.false_eq_true, if_true, if_false, ↓reduceIte, ne_eq, Nat.reduceLeDiff, Nat.reduceAdd, not_false_eq_true, not_true_eq_false, reduceCtorEq, Option.some.injEq, Int.reduceToNat, Int.reducePow, Int.reduceAdd, Int.reduceMul, Int.reduceSub, Int.reduceNeg, Int.reduceEq, List.nil_append, List.cons_append, ↓r_keep, ↓r_isExc, ↓r_indexM, ↓r_lstL, ↓r_eqF, ↓r_neF, ↓r_eqM, ↓r_neM, ↓r_isiFr, ↓r_eqB, ↓r_neB, beq_self_eq_true, ↓r_cutO, ↓r_cutOL, ↓r_cutOP, r_at h0])
  split
  · rename_i hl
    have hl' : k.toNat < xs.length := by simp at hl; omega
    exact ⟨.int xs[k.toNat], by simp [hl'], h _⟩
  · exact ⟨mulC (m := 3) (n := 20) (by decide) (Bd.rng (m := 1001) h0 (by omega) (by decide)), h _⟩
def pr__law_low : DSp := fun ds μ P _ => ∃ a b, ds = [.int a, .int b] ∧ b ≠ 0 ∧ Bd 9000 b ∧ P (fr (low a b)) μ
theorem len__law_low : ∀ ds μ P PX, pr__law_low ds μ P PX → ds.length = (["_law_top", "_law_bottom"] : List Str).length := by
  rintro ds μ P PX ⟨a, b, rfl, _⟩
  rfl
theorem ok__law_low {P : Program} {w : World} {K : PySem.W.Frag} {mg : Str → Option Value} {base : Heap} {f : Addr} {fd : FuncData} (F : Fun K "_law_low" "_law_low" s__law_low f fd)
    (m_abs : mg "abs" = none)
    (m_int : mg "int" = none) : FnOk P w K mg base (L2.CX P w) 1 f fd ["_law_top", "_law_bottom"] (spD K pr__law_low) := by
  have nd := sc__law_low.nd
  refine fn_D (k := 0) F sc__law_low len__law_low (by decide) (fun cdv A outer s H E PX hr tk hp => ⟨_, (sd_cons (sd_set 2 nd (pd_abs rfl m_abs (da_cons (vr 0) da_nil)))
      (sd_cons (sd_set 3 nd (pd_abs rfl m_abs (da_cons (vr 1) da_nil)))
      (sd_cons (sd_while hp (pt_ne hr.units (vr 3) pd_int)
       (sd_one (sd_par 2 3 rfl nd (da_cons (vr 3) (da_cons (pd_mod (vr 2) (vr 3)) da_nil)))))
      (sd_cons (sd_set 2 nd (pd_mul (vr 2) (pd_sub pd_int (pd_mul pd_int (pd_toint (by rfl) m_int (da_cons (pd_lt (vr 1) pd_int) da_nil))))))
      (sd_one (sd_ret (pd_tup (da_cons (pd_div (vr 0) (vr 2)) (da_cons (pd_div (vr 1) (vr 2)) da_nil)))))))))⟩) ?_
  rintro ds μ P PX ⟨a, b, rfl, hb, hd, h⟩
  have g0 := gsg_ne (a := a) hb
  have g1 := (gsg_bd (a := a) hb hd)
  (try simp only [↓r_wm1, ↓r_wm2, ↓r_wm3, ↓r_wm4, ↓r_forT, ↓r_forI, ↓r_fU0, ↓r_fU1, ↓r_turn, ↓r_yes, ↓r_ofrz, ↓r_oown, ↓r_w0, ↓r_w1, ↓r_w2, ↓r_w3, ↓r_w4, ↓r_lcT, ↓r_lcI, ↓r_lcR, ↓r_cU0, ↓r_cU1, ↓r_s0, ↓r_n0, ↓r_s1, ↓r_n1, ↓r_s2, ↓r_n2, ↓r_s3, ↓r_n3, ↓r_s4, ↓r_n4, ↓r_s5, ↓r_n5, ↓r_s6, ↓r_n6, ↓r_s7, ↓r_n7, ↓r_s8, ↓r_n8, ↓r_s9, ↓r_n9, ↓r_s10, ↓r_n10, ↓r_s11, ↓r_n11, ↓r_s12, ↓r_n12, ↓r_s13, ↓r_n13, ↓r_s14, ↓r_n14, ↓r_s15, ↓r_n15, ↓r_s16, ↓r_n16, ↓r_s17, ↓r_n17, ↓r_s18, ↓r_n18, ↓r_s19, ↓r_n19, ↓r_s20, ↓r_n20, ↓r_s21, ↓r_n21, ↓r_s22, ↓r_n22, ↓r_s23, ↓r_n23, ↓r_s24, ↓r_n24, ↓r_s25, ↓r_n25, ↓r_fr0, ↓r_fr1, ↓r_frL, ↓r_frN, ↓r_frNN, ↓r_max3, ↓r_seq, ↓r_next, ↓r_var0, ↓r_varS, ↓r_c, ↓r_op, ↓r_addI, ↓r_addS, ↓r_addT, ↓r_addL, ↓r_sub, ↓r_mul, ↓r_div, ↓r_mod, ↓r_pow, ↓r_lt, ↓r_le, ↓r_gt, ↓r_ge, ↓r_eqI, ↓r_neI, ↓r_isN, ↓r_isT, ↓r_isI, ↓r_isR, ↓r_inN, ↓r_inT, ↓r_inI, ↓r_ixT, ↓r_ixLs, ↓r_ixRo, ↓r_ixP, ↓r_at0, ↓r_at1, ↓r_at2, ↓r_at3, ↓r_neg, ↓r_negC, ↓r_b, ↓r_bl, ↓r_and, ↓r_or, ↓r_not, ↓r_andV, ↓r_orV, ↓r_notV, ↓r_bl', ↓r_if, ↓r_ifS, ↓r_asg, ↓r_name, ↓r_jnil, ↓r_jcons, ↓r_jtup, ↓r_jlst, ↓r_jlstP, ↓r_jsub, ↓r_jcut, ↓r_jcutP, ↓r_jcutA, ↓r_in2, ↓r_stP, ↓r_st0, ↓r_st1, ↓r_st2, ↓r_par, ↓r_ret, ↓r_retN, ↓r_drop, ↓r_brk, ↓r_cont, ↓r_raise, ↓r_nil, ↓r_cons, ↓r_tup, ↓r_lst, ↓r_new, ↓r_frz, ↓r_frzP, ↓r_cb, ↓r_call, ↓r_abs, ↓r_max, ↓r_min, ↓r_intI, ↓r_intB, ↓r_lenT, ↓r_lenL, ↓r_lenR, ↓r_lenP, ↓r_listL, ↓r_listR, ↓r_listOL, ↓r_tupleL, ↓r_tupleP, ↓r_isiII, ↓r_isiIB, ↓r_isiBI, ↓r_isiBB, ↓r_isiTT, ↓r_isiLL, ↓r_app, ↓r_appP, ↓r_clr, ↓r_clrP, ↓r_lstP, ↓r_cut, ↓r_onone, ↓r_osome, ↓r_int', ↓r_cutT, ↓r_cutLs, ↓r_cutP, ↓r_range1, ↓r_rg1, ↓rs0, ↓rsS, ↓ite_dec, ↓ite_ndec, ↓put_put, startD, List.length_cons, List.length_nil, and_assoc, and_true, true_and, and_self, or_self, or_false, false_or, or_true, true_or, decide_eq_true_eq, decide_true, decide_false, Bool.not_true, Bool.not_false, Bool.false_eq_true, if_true, if_false, ↓reduceIte, ne_eq, Nat.reduceLeDiff, Nat.reduceAdd, not_false_eq_true, not_true_eq_false, reduceCtorEq, Option.some.injEq, Int.reduceToNat, Int.reducePow, Int.reduceAdd, Int.reduceMul, Int.reduceSub, Int.reduceNeg, Int.reduceEq, List.nil_append, List.cons_append, ↓r_keep, ↓r_isExc, ↓r_indexM, ↓r_lstL, ↓r_eqF, ↓r_neF, ↓r_eqM, ↓r_neM, ↓r_isiFr, ↓r_eqB, ↓r_neB, beq_self_eq_true, ↓r_cutO, ↓r_cutOL, ↓r_cutOP])
  refine ⟨fun m ρ μ' => ∃ x y : Int, ρ = [some (.int a), some (.int b), some (.int x), some (.int y)] ∧ μ' = μ ∧ m = y.natAbs ∧ 0 ≤ x ∧ 0 ≤ y ∧ Int.gcd x y = Int.gcd a b, ⟨_, _, _, rfl, rfl, rfl, by omega, by omega, rfl⟩, ?_⟩
  rintro m ρ μ' ⟨x, y, rfl, rfl, rfl, hx, hy, e⟩
  (try simp only [↓r_wm1, ↓r_wm2, ↓r_wm3, ↓r_wm4, ↓r_forT, ↓r_forI, ↓r_fU0, ↓r_fU1, ↓r_turn, ↓r_yes, ↓r_ofrz, ↓r_oown, ↓r_w0, ↓r_w1, ↓r_w2, ↓r_w3, ↓r_w4, ↓r_lcT, ↓r_lcI, ↓r_lcR, ↓r_cU0, ↓r_cU1, ↓r_s0, ↓r_n0, ↓r_s1, ↓r_n1, ↓r_s2, ↓r_n2, ↓r_s3, ↓r_n3, ↓r_s4, ↓r_n4, ↓r_s5, ↓r_n5, ↓r_s6, ↓r_n6, ↓r_s7, ↓r_n7, ↓r_s8, ↓r_n8, ↓r_s9, ↓r_n9, ↓r_s10, ↓r_n10, ↓r_s11, ↓r_n11, ↓r_s12, ↓r_n12, ↓r_s13, ↓r_n13, ↓r_s14, ↓r_n14, ↓r_s15, ↓r_n15, ↓r_s16, ↓r_n16, ↓r_s17, ↓r_n17, ↓r_s18, ↓r_n18, ↓r_s19, ↓r_n19, ↓r_s20, ↓r_n20, ↓r_s21, ↓r_n21, ↓r_s22, ↓r_n22, ↓r_s23, ↓r_n23, ↓r_s24, ↓r_n24, ↓r_s25, ↓r_n25, ↓r_fr0, ↓r_fr1, ↓r_frL, ↓r_frN, ↓r_frNN, ↓r_max3, ↓r_seq, ↓r_next, ↓r_var0, ↓r_varS, ↓r_c, ↓r_op, ↓r_addI, ↓r_addS, ↓r_addT, ↓r_addL, ↓r_sub, ↓r_mul, ↓r_div, ↓r_mod, ↓r_pow, ↓r_lt, ↓r_le, ↓r_gt, ↓r_ge, ↓r_eqI, ↓r_neI, ↓r_isN, ↓r_isT, ↓r_isI, ↓r_isR, ↓r_inN, ↓r_inT, ↓r_inI, ↓r_ixT, ↓r_ixLs, ↓r_ixRo, ↓r_ixP, ↓r_at0, ↓r_at1, ↓r_at2, ↓r_at3, ↓r_neg, ↓r_negC, ↓r_b, ↓r_bl, ↓r_and, ↓r_or, ↓r_not, ↓r_andV, ↓r_orV, ↓r_notV, ↓r_bl', ↓r_if, ↓r_ifS, ↓r_asg, ↓r_name, ↓r_jnil, ↓r_jcons, ↓r_jtup, ↓r_jlst, ↓r_jlstP, ↓r_jsub, ↓r_jcut, ↓r_jcutP, ↓r_jcutA, ↓r_in2, ↓r_stP, ↓r_st0, ↓r_st1, ↓r_st2, ↓r_par, ↓r_ret, ↓r_retN, ↓r_drop, ↓r_brk, ↓r_cont, ↓r_raise, ↓r_nil, ↓r_cons, ↓r_tup, ↓r_lst, ↓r_new, ↓r_frz, ↓r_frzP, ↓r_cb, ↓r_call, ↓r_abs, ↓r_max, ↓r_min, ↓r_intI, ↓r_intB, ↓r_lenT, ↓r_lenL, ↓r_lenR, ↓r_lenP, ↓r_listL, ↓r_listR, ↓r_listOL, ↓r_tupleL, ↓r_tupleP, ↓r_isiII, ↓r_isiIB, ↓r_isiBI, ↓r_isiBB, ↓r_isiTT, ↓r_isiLL, ↓r_app, ↓r_appP, ↓r_clr, ↓r_clrP, ↓r_lstP, ↓r_cut, ↓r_onone, ↓r_osome, ↓r_int', ↓r_cutT, ↓r_cutLs, ↓r_cutP, ↓r_range1, ↓r_rg1, ↓rs0, ↓rsS, ↓ite_dec, ↓ite_ndec, ↓put_put, startD, List.length_cons, List.length_nil, and_assoc, and_true, true_and, and_self, or_self, or_false, false_or, or_true, true_or, decide_eq_true_eq, decide_true, decide_false, Bool.not_true, Bool.not_false, Bool.false_eq_true, if_true, if_false, ↓reduceIte, ne_eq, Nat.reduceLeDiff, Nat.reduceAdd, not_false_eq_true, not_true_eq_false, reduceCtorEq, Option.some.injEq, Int.reduceToNat, Int.reducePow, Int.reduceAdd, Int.reduceMul, Int.reduceSub, Int.reduceNeg, Int.reduceEq, List.nil_append, List.cons_append, ↓r_keep, ↓r_isExc, ↓r_indexM, ↓r_lstL, ↓r_eqF, ↓r_neF, ↓r_eqM, ↓r_neM, ↓r_isiFr, ↓r_eqB, ↓r_neB, beq_self_eq_true, ↓r_cutO, ↓r_cutOL, ↓r_cutOP])
  split
  · rename_i hy0
    exact ⟨hy0, _, fmod_lt hy0, _, _, rfl, rfl, hy, Int.fmod_nonneg_of_pos x (by omega), (gcd_fmod x y).trans e⟩
  · rename_i hy0
    have hy' : y = 0 := Decidable.of_not_not hy0
    rw [hy', Int.gcd_zero] at e
    have ex : x = (Int.gcd a b : Nat) := by omega
    unfold fr low at h
    have eg : gsg a b = x * (1 - 2 * if b < 0 then 1 else 0) := by
      unfold gsg
      split <;> omega
    have hx : Bd 9000 x := by
      rw [ex]
      have := gcd_le_abs (a := a) hb
      unfold Bd at *
      omega
    rw [← eg]
    refine ⟨mulC (m := 3) (n := 3) (by decide) (by split <;> decide), ?_, ⟨g0, g1⟩, ⟨g0, g1⟩, h⟩
    exact mulC (n := 3) hx (by split <;> decide)
/-- the whole root -/
def pr__law_square_root : DSp := fun ds μ P _ => ∃ n, ds = [.int n] ∧ 0 ≤ n ∧ Bd 400 n ∧ ∀ r, 0 ≤ r → r * r ≤ n → n < (r + 1) * (r + 1) → P (.int r) μ
theorem len__law_square_root : ∀ ds μ P PX, pr__law_square_root ds μ P PX → ds.length = (["_law_number_here"] : List Str).length := by
  rintro ds μ P PX ⟨n, rfl, _⟩
  rfl
theorem le_sq {l n : Int} (h0 : 0 ≤ l) (h : l * l ≤ n) : l ≤ n := by
  rcases (show l < 1 ∨ 1 ≤ l by omega) with z | z
  · have : l = 0 := by omega
    subst this
    omega
  · have := Int.mul_le_mul_of_nonneg_left z h0
    omega
theorem ok__law_square_root {P : Program} {w : World} {K : PySem.W.Frag} {mg : Str → Option Value} {base : Heap} {f : Addr} {fd : FuncData} (F : Fun K "_law_square_root" "_law_square_root" s__law_square_root f fd) : FnOk P w K mg base (L2.CX P w) 1 f fd ["_law_number_here"] (spD K pr__law_square_root) := by
  have nd := sc__law_square_root.nd
  refine fn_D (k := 0) F sc__law_square_root len__law_square_root (by decide) (fun cdv A outer s H E PX hr tk hp => ⟨_, (sd_cons (sd_set 1 nd pd_int)
      (sd_cons (sd_set 2 nd pd_int)
      (sd_cons (sd_while hp (pt_le (pd_mul (vr 2) (vr 2)) (vr 0))
       (sd_one (sd_set 2 nd (pd_mul pd_int (vr 2)))))
      (sd_cons (sd_while hp (pt_gt (vr 2) pd_int)
       (sd_cons (sd_if (pt_le (pd_mul (pd_add (vr 1) (vr 2)) (pd_add (vr 1) (vr 2))) (vr 0))
        (sd_one (sd_set 1 nd (pd_add (vr 1) (vr 2))))
        sd_nil)
       (sd_one (sd_set 2 nd (pd_div (vr 2) pd_int)))))
      (sd_one (sd_ret (vr 1)))))))⟩) ?_
  rintro ds μ P PX ⟨n, rfl, n0, nb, h⟩
  have bd : ∀ x : Int, 0 ≤ x → x ≤ 4 * n + 4 → Bd 410 x := by
    intro x x0 x1
    exact ((((show Bd 3 4 by decide).mul nb).add (show Bd 3 4 by decide)).mono (by omega)).le (by omega)
  (try simp only [↓r_wm1, ↓r_wm2, ↓r_wm3, ↓r_wm4, ↓r_forT, ↓r_forI, ↓r_fU0, ↓r_fU1, ↓r_turn, ↓r_yes, ↓r_ofrz, ↓r_oown, ↓r_w0, ↓r_w1, ↓r_w2, ↓r_w3, ↓r_w4, ↓r_lcT, ↓r_lcI, ↓r_lcR, ↓r_cU0, ↓r_cU1, ↓r_s0, ↓r_n0, ↓r_s1, ↓r_n1, ↓r_s2, ↓r_n2, ↓r_s3, ↓r_n3, ↓r_s4, ↓r_n4, ↓r_s5, ↓r_n5, ↓r_s6, ↓r_n6, ↓r_s7, ↓r_n7, ↓r_s8, ↓r_n8, ↓r_s9, ↓r_n9, ↓r_s10, ↓r_n10, ↓r_s11, ↓r_n11, ↓r_s12, ↓r_n12, ↓r_s13, ↓r_n13, ↓r_s14, ↓r_n14, ↓r_s15, ↓r_n15, ↓r_s16, ↓r_n16, ↓r_s17, ↓r_n17, ↓r_s18, ↓r_n18, ↓r_s19, ↓r_n19, ↓r_s20, ↓r_n20, ↓r_s21, ↓r_n21, ↓r_s22, ↓r_n22, ↓r_s23, ↓r_n23, ↓r_s24, ↓r_n24, ↓r_s25, ↓r_n25, ↓r_fr0, ↓r_fr1, ↓r_frL, ↓r_frN, ↓r_frNN, ↓r_max3, ↓r_seq, ↓r_next, ↓r_var0, ↓r_varS, ↓r_c, ↓r_op, ↓r_addI, ↓r_addS, ↓r_addT, ↓r_addL, ↓r_sub, ↓r_mul, ↓r_div, ↓r_mod, ↓r_pow, ↓r_lt, ↓r_le, ↓r_gt, ↓r_ge, ↓r_eqI, ↓r_neI, ↓r_isN, ↓r_isT, ↓r_isI, ↓r_isR, ↓r_inN, ↓r_inT, ↓r_inI, ↓r_ixT, ↓r_ixLs, ↓r_ixRo, ↓r_ixP, ↓r_at0, ↓r_at1, ↓r_at2, ↓r_at3, ↓r_neg, ↓r_negC, ↓r_b, ↓r_bl, ↓r_and, ↓r_or, ↓r_not, ↓r_andV, ↓r_orV, ↓r_notV, ↓r_bl', ↓r_if, ↓r_ifS, ↓r_asg, ↓r_name, ↓r_jnil, ↓r_jcons, ↓r_jtup, ↓r_jlst, ↓r_jlstP, ↓r_jsub, ↓r_jcut, ↓r_jcutP, ↓r_jcutA, ↓r_in2, ↓r_stP, ↓r_st0, ↓r_st1, ↓r_st2, ↓r_par, ↓r_ret, ↓r_retN, ↓r_drop, ↓r_brk, ↓r_cont, ↓r_raise, ↓r_nil, ↓r_cons, ↓r_tup, ↓r_lst, ↓r_new, ↓r_frz, ↓r_frzP, ↓r_cb, ↓r_call, ↓r_abs, ↓r_max, ↓r_min, ↓r_intI, ↓r_intB, ↓r_lenT, ↓r_lenL, ↓r_lenR, ↓r_lenP, ↓r_listL, ↓r_listR, ↓r_listOL, ↓r_tupleL, ↓r_tupleP, ↓r_isiII, ↓r_isiIB, ↓r_isiBI, ↓r_isiBB, ↓r_isiTT, ↓r_isiLL, ↓r_app, ↓r_appP, ↓r_clr, ↓r_clrP, ↓r_lstP, ↓r_cut, ↓r_onone, ↓r_osome, ↓r_int', ↓r_cutT, ↓r_cutLs, ↓r_cutP, ↓r_range1, ↓r_rg1, ↓rs0, ↓rsS, ↓ite_dec, ↓ite_ndec, ↓put_put, startD, List.length_cons, List.length_nil, and_assoc, and_true, true_and, and_self, or_self, or_false, false_or, or_true, true_or, decide_eq_true_eq, decide_true, decide_false, Bool.not_true, Bool.not_false, Bool.false_eq_true, if_true, if_false, ↓reduceIte, ne_eq, Nat.reduceLeDiff, Nat.reduceAdd, not_false_eq_true, not_true_eq_false, reduceCtorEq, Option.some.injEq, Int.reduceToNat, Int.reducePow, Int.reduceAdd, Int.reduceMul, Int.reduceSub, Int.reduceNeg, Int.reduceEq, List.nil_append, List.cons_append, ↓r_keep, ↓r_isExc, ↓r_indexM, ↓r_lstL, ↓r_eqF, ↓r_neF, ↓r_eqM, ↓r_neM, ↓r_isiFr, ↓r_eqB, ↓r_neB, beq_self_eq_true, ↓r_cutO, ↓r_cutOL, ↓r_cutOP])
  refine ⟨fun m ρ μ' => ∃ (t : Int) (k : Nat), ρ = [some (.int n), some (.int 0), some (.int t)] ∧ μ' = μ ∧ m = (2 * n + 2 - t).toNat ∧ t = 2 ^ k ∧ 1 ≤ t ∧ t ≤ 2 * n + 1, ⟨_, 1, 0, rfl, rfl, rfl, rfl, by omega, by omega⟩, ?_⟩
  rintro m ρ μ' ⟨t, k, rfl, rfl, rfl, ht, t0, t1⟩
  have mt : MulC t t := mulC (bd t (by omega) (by omega)) (bd t (by omega) (by omega))
  (try simp only [↓r_wm1, ↓r_wm2, ↓r_wm3, ↓r_wm4, ↓r_forT, ↓r_forI, ↓r_fU0, ↓r_fU1, ↓r_turn, ↓r_yes, ↓r_ofrz, ↓r_oown, ↓r_w0, ↓r_w1, ↓r_w2, ↓r_w3, ↓r_w4, ↓r_lcT, ↓r_lcI, ↓r_lcR, ↓r_cU0, ↓r_cU1, ↓r_s0, ↓r_n0, ↓r_s1, ↓r_n1, ↓r_s2, ↓r_n2, ↓r_s3, ↓r_n3, ↓r_s4, ↓r_n4, ↓r_s5, ↓r_n5, ↓r_s6, ↓r_n6, ↓r_s7, ↓r_n7, ↓r_s8, ↓r_n8, ↓r_s9, ↓r_n9, ↓r_s10, ↓r_n10, ↓r_s11, ↓r_n11, ↓r_s12, ↓r_n12, ↓r_s13, ↓r_n13, ↓r_s14, ↓r_n14, ↓r_s15, ↓r_n15, ↓r_s16, ↓r_n16, ↓r_s17, ↓r_n17, ↓r_s18, ↓r_n18, ↓r_s19, ↓r_n19, ↓r_s20, ↓r_n20, ↓r_s21, ↓r_n21, ↓r_s22, ↓r_n22, ↓r_s23, ↓r_n23, ↓r_s24, ↓r_n24, ↓r_s25, ↓r_n25, ↓r_fr0, ↓r_fr1, ↓r_frL, ↓r_frN, ↓r_frNN, ↓r_max3, ↓r_seq, ↓r_next, ↓r_var0, ↓r_varS, ↓r_c, ↓r_op, ↓r_addI, ↓r_addS, ↓r_addT, ↓r_addL, ↓r_sub, ↓r_mul, ↓r_div, ↓r_mod, ↓r_pow, ↓r_lt, ↓r_le, ↓r_gt, ↓r_ge, ↓r_eqI, ↓r_neI, ↓r_isN, ↓r_isT, ↓r_isI, ↓r_isR, ↓r_inN, ↓r_inT, ↓r_inI, ↓r_ixT, ↓r_ixLs, ↓r_ixRo, ↓r_ixP, ↓r_at0, ↓r_at1, ↓r_at2, ↓r_at3, ↓r_neg, ↓r_negC, ↓r_b, ↓r_bl, ↓r_and, ↓r_or, ↓r_not, ↓r_andV, ↓r_orV, ↓r_notV, ↓r_bl', ↓r_if, ↓r_ifS, ↓r_asg, ↓r_name, ↓r_jnil, ↓r_jcons, ↓r_jtup, ↓r_jlst, ↓r_jlstP, ↓r_jsub, ↓r_jcut, ↓r_jcutP, ↓r_jcutA, ↓r_in2, ↓r_stP, ↓r_st0, ↓r_st1, ↓r_st2, ↓r_par, ↓r_ret, ↓r_retN, ↓r_drop, ↓r_brk, ↓r_cont, ↓r_raise, ↓r_nil, ↓r_cons, ↓r_tup, ↓r_lst, ↓r_new, ↓r_frz, ↓r_frzP, ↓r_cb, ↓r_call, ↓r_abs, ↓r_max, ↓r_min, ↓r_intI, ↓r_intB, ↓r_lenT, ↓r_lenL, ↓r_lenR, ↓r_lenP, ↓r_listL, ↓r_listR, ↓r_listOL, ↓r_tupleL, ↓r_tupleP, ↓r_isiII, ↓r_isiIB, ↓r_isiBI, ↓r_isiBB, ↓r_isiTT, ↓r_isiLL, ↓r_app, ↓r_appP, ↓r_clr, ↓r_clrP, ↓r_lstP, ↓r_cut, ↓r_onone, ↓r_osome, ↓r_int', ↓r_cutT, ↓r_cutLs, ↓r_cutP, ↓r_range1, ↓r_rg1, ↓rs0, ↓rsS, ↓ite_dec, ↓ite_ndec, ↓put_put, startD, List.length_cons, List.length_nil, and_assoc, and_true, true_and, and_self, or_self, or_false, false_or, or_true, true_or, decide_eq_true_eq, decide_true, decide_false, Bool.not_true, Bool.not_false, Bool.false_eq_true, if_true, if_false, ↓reduceIte, ne_eq, Nat.reduceLeDiff, Nat.reduceAdd, not_false_eq_true, not_true_eq_false, reduceCtorEq, Option.some.injEq, Int.reduceToNat, Int.reducePow, Int.reduceAdd, Int.reduceMul, Int.reduceSub, Int.reduceNeg, Int.reduceEq, List.nil_append, List.cons_append, ↓r_keep, ↓r_isExc, ↓r_indexM, ↓r_lstL, ↓r_eqF, ↓r_neF, ↓r_eqM, ↓r_neM, ↓r_isiFr, ↓r_eqB, ↓r_neB, beq_self_eq_true, ↓r_cutO, ↓r_cutOL, ↓r_cutOP, mt])
  split
  · rename_i hl
    have := le_sq (by omega) hl
    exact ⟨mulC (m := 3) (by decide) (bd t (by omega) (by omega)), _, by omega, 2 * t, k + 1, rfl, rfl, by rw [ht, Int.pow_succ]; omega, by omega, by omega⟩
  · rename_i hl
    have e4 : (0 + 2 * t) * (0 + 2 * t) = 4 * (t * t) := by grind
    refine ⟨fun m ρ μ2 => ∃ (l s : Int), ρ = [some (.int n), some (.int l), some (.int s)] ∧ μ2 = μ' ∧ m = s.toNat ∧ 0 ≤ l ∧ l * l ≤ n ∧ 0 ≤ s ∧ s ≤ 2 * n + 1 ∧ ((s = 0 ∧ n < (l + 1) * (l + 1)) ∨ ∃ k : Nat, s = 2 ^ k ∧ n < (l + 2 * s) * (l + 2 * s)), ⟨_, 0, t, rfl, rfl, rfl, by omega, by omega, by omega, by omega, .inr ⟨k, ht, by omega⟩⟩, ?_⟩
    rintro m ρ μ2 ⟨l, s, rfl, rfl, rfl, l0, l1, s0, s1, hs⟩
    have l2 := le_sq l0 l1
    (try simp only [↓r_wm1, ↓r_wm2, ↓r_wm3, ↓r_wm4, ↓r_forT, ↓r_forI, ↓r_fU0, ↓r_fU1, ↓r_turn, ↓r_yes, ↓r_ofrz, ↓r_oown, ↓r_w0, ↓r_w1, ↓r_w2, ↓r_w3, ↓r_w4, ↓r_lcT, ↓r_lcI, ↓r_lcR, ↓r_cU0, ↓r_cU1, ↓r_s0, ↓r_n0, ↓r_s1, ↓r_n1, ↓r_s2, ↓r_n2, ↓r_s3, ↓r_n3, ↓r_s4, ↓r_n4, ↓r_s5, ↓r_n5, ↓r_s6, ↓r_n6, ↓r_s7, ↓r_n7, ↓r_s8, ↓r_n8, ↓r_s9, ↓r_n9, ↓r_s10, ↓r_n10, ↓r_s11, ↓r_n11, ↓r_s12, ↓r_n12, ↓r_s13, ↓r_n13, ↓r_s14, ↓r_n14, ↓r_s15, ↓r_n15, ↓r_s16, ↓r_n16, ↓r_s17, ↓r_n17, ↓r_s18, ↓r_n18, ↓r_s19, ↓r_n19, ↓r_s20, ↓r_n20, ↓r_s21, ↓r_n21, ↓r_s22, ↓r_n22, ↓r_s23, ↓r_n23, ↓r_s24, ↓r_n24, ↓r_s25, ↓r_n25, ↓r_fr0, ↓r_fr1, ↓r_frL, ↓r_frN, ↓r_frNN, ↓r_max3, ↓r_seq, ↓r_next, ↓r_var0, ↓r_varS, ↓r_c, ↓r_op, ↓r_addI, ↓r_addS, ↓r_addT, ↓r_addL, ↓r_sub, ↓r_mul, ↓r_div, ↓r_mod, ↓r_pow, ↓r_lt, ↓r_le, ↓r_gt, ↓r_ge, ↓r_eqI, ↓r_neI, ↓r_isN, ↓r_isT, ↓r_isI, ↓r_isR, ↓r_inN, ↓r_inT, ↓r_inI, ↓r_ixT, ↓r_ixLs, ↓r_ixRo, ↓r_ixP, ↓r_at0, ↓r_at1, ↓r_at2, ↓r_at3, ↓r_neg, ↓r_negC, ↓r_b, ↓r_bl, ↓r_and, ↓r_or, ↓r_not, ↓r_andV, ↓r_orV, ↓r_notV, ↓r_bl', ↓r_if, ↓r_ifS, ↓r_asg, ↓r_name, ↓r_jnil, ↓r_jcons, ↓r_jtup, ↓r_jlst, ↓r_jlstP, ↓r_jsub, ↓r_jcut, ↓r_jcutP, ↓r_jcutA, ↓r_in2, ↓r_stP, ↓r_st0, ↓r_st1, ↓r_st2, ↓r_par, ↓r_ret, ↓r_retN, ↓r_drop, ↓r_brk, ↓r_cont, ↓r_raise, ↓r_nil, ↓r_cons, ↓r_tup, ↓r_lst, ↓r_new, ↓r_frz, ↓r_frzP, ↓r_cb, ↓r_call, ↓r_abs, ↓r_max, ↓r_min, ↓r_intI, ↓r_intB, ↓r_lenT, ↓r_lenL, ↓r_lenR, ↓r_lenP, ↓r_listL, ↓r_listR, ↓r_listOL, ↓r_tupleL, ↓r_tupleP, ↓r_isiII, ↓r_isiIB, ↓r_isiBI, ↓r_isiBB, ↓r_isiTT, ↓r_isiLL, ↓r_app, ↓r_appP, ↓r_clr, ↓r_clrP, ↓r_lstP, ↓r_cut, ↓r_onone, ↓r_osome, ↓r_int', ↓r_cutT, ↓r_cutLs, ↓r_cutP, ↓r_range1, ↓r_rg1, ↓rs0, ↓rsS, ↓ite_dec, ↓ite_ndec, ↓put_put, startD, List.length_cons, List.length_nil, and_assoc, and_true, true_and, and_self, or_self, or_false, false_or, or_true, true_or, decide_eq_true_eq, decide_true, decide_false, Bool.not_true, Bool.not_false, Bool.false_eq_true, if_true, if_false, ↓reduceIte, ne_eq, Nat.reduceLeDiff, Nat.reduceAdd, not_false_eq_true, not_true_eq_false, reduceCtorEq, Option.some.injEq, Int.reduceToNat, Int.reducePow, Int.reduceAdd, Int.reduceMul, Int.reduceSub, Int.reduceNeg, Int.reduceEq, List.nil_append, List.cons_append, ↓r_keep, ↓r_isExc, ↓r_indexM, ↓r_lstL, ↓r_eqF, ↓r_neF, ↓r_eqM, ↓r_neM, ↓r_isiFr, ↓r_eqB, ↓r_neB, beq_self_eq_true, ↓r_cutO, ↓r_cutOL, ↓r_cutOP])
    split
    · rename_i sp
      have hb := bd (l + s) (by omega) (by omega)
      refine ⟨mulC hb hb, ?_⟩
      rcases hs with ⟨z, _⟩ | ⟨k, hk, hn⟩
      · omega
      have hs2 : (k = 0 ∧ s = 1 ∧ s.fdiv 2 = 0) ∨ (∃ j : Nat, k = j + 1 ∧ s.fdiv 2 = 2 ^ j ∧ 2 * s.fdiv 2 = s) := by
        cases k with
        | zero => exact .inl ⟨rfl, by simpa using hk, by rw [show s = 1 by simpa using hk]; decide⟩
        | succ j =>
          refine .inr ⟨j, rfl, ?_, ?_⟩
          all_goals
            rw [Int.fdiv_eq_ediv_of_nonneg _ (by decide)]
            rw [Int.pow_succ] at hk
            omega
      have hd : DivC s 2 := divC (n := 2) (by decide) (by decide)
      have f0 : 0 ≤ s.fdiv 2 ∧ s.fdiv 2 < s := by
        rw [Int.fdiv_eq_ediv_of_nonneg _ (by decide)]
        omega
      (try simp only [↓r_wm1, ↓r_wm2, ↓r_wm3, ↓r_wm4, ↓r_forT, ↓r_forI, ↓r_fU0, ↓r_fU1, ↓r_turn, ↓r_yes, ↓r_ofrz, ↓r_oown, ↓r_w0, ↓r_w1, ↓r_w2, ↓r_w3, ↓r_w4, ↓r_lcT, ↓r_lcI, ↓r_lcR, ↓r_cU0, ↓r_cU1, ↓r_s0, ↓r_n0, ↓r_s1, ↓r_n1, ↓r_s2, ↓r_n2, ↓r_s3, ↓r_n3, ↓r_s4, ↓r_n4, ↓r_s5, ↓r_n5, ↓r_s6, ↓r_n6, ↓r_s7, ↓r_n7, ↓r_s8, ↓r_n8, ↓r_s9, ↓r_n9, ↓r_s10, ↓r_n10, ↓r_s11, ↓r_n11, ↓r_s12, ↓r_n12, ↓r_s13, ↓r_n13, ↓r_s14, ↓r_n14, ↓r_s15, ↓r_n15, ↓r_s16, ↓r_n16, ↓r_s17, ↓r_n17, ↓r_s18, ↓r_n18, ↓r_s19, ↓r_n19, ↓r_s20, ↓r_n20, ↓r_s21, ↓r_n21, ↓r_s22, ↓r_n22, ↓r_s23, ↓r_n23, ↓r_s24, ↓r_n24, ↓r_s25, ↓r_n25, ↓r_fr0, ↓r_fr1, ↓r_frL, ↓r_frN, ↓r_frNN, ↓r_max3, ↓r_seq, ↓r_next, ↓r_var0, ↓r_varS, ↓r_c, ↓r_op, ↓r_addI, ↓r_addS, ↓r_addT, ↓r_addL, ↓r_sub, ↓r_mul, ↓r_div, ↓r_mod, ↓r_pow, ↓r_lt, ↓r_le, ↓r_gt, ↓r_ge, ↓r_eqI, ↓r_neI, ↓r_isN, ↓r_isT, ↓r_isI, ↓r_isR, ↓r_inN, ↓r_inT, ↓r_inI, ↓r_ixT, ↓r_ixLs, ↓r_ixRo, ↓r_ixP, ↓r_at0, ↓r_at1, ↓r_at2, ↓r_at3, ↓r_neg, ↓r_negC, ↓r_b, ↓r_bl, ↓r_and, ↓r_or, ↓r_not, ↓r_andV, ↓r_orV, ↓r_notV, ↓r_bl', ↓r_if, ↓r_ifS, ↓r_asg, ↓r_name, ↓r_jnil, ↓r_jcons, ↓r_jtup, ↓r_jlst, ↓r_jlstP, ↓r_jsub, ↓r_jcut, ↓r_jcutP, ↓r_jcutA, ↓r_in2, ↓r_stP, ↓r_st0, ↓r_st1, ↓r_st2, ↓r_par, ↓r_ret, ↓r_retN, ↓r_drop, ↓r_brk, ↓r_cont, ↓r_raise, ↓r_nil, ↓r_cons, ↓r_tup, ↓r_lst, ↓r_new, ↓r_frz, ↓r_frzP, ↓r_cb, ↓r_call, ↓r_abs, ↓r_max, ↓r_min, ↓r_intI, ↓r_intB, ↓r_lenT, ↓r_lenL, ↓r_lenR, ↓r_lenP, ↓r_listL, ↓r_listR, ↓r_listOL, ↓r_tupleL, ↓r_tupleP, ↓r_isiII, ↓r_isiIB, ↓r_isiBI, ↓r_isiBB, ↓r_isiTT, ↓r_isiLL, ↓r_app, ↓r_appP, ↓r_clr, ↓r_clrP, ↓r_lstP, ↓r_cut, ↓r_onone, ↓r_osome, ↓r_int', ↓r_cutT, ↓r_cutLs, ↓r_cutP, ↓r_range1, ↓r_rg1, ↓rs0, ↓rsS, ↓ite_dec, ↓ite_ndec, ↓put_put, startD, List.length_cons, List.length_nil, and_assoc, and_true, true_and, and_self, or_self, or_false, false_or, or_true, true_or, decide_eq_true_eq, decide_true, decide_false, Bool.not_true, Bool.not_false, Bool.false_eq_true, if_true, if_false, ↓reduceIte, ne_eq, Nat.reduceLeDiff, Nat.reduceAdd, not_false_eq_true, not_true_eq_false, reduceCtorEq, Option.some.injEq, Int.reduceToNat, Int.reducePow, Int.reduceAdd, Int.reduceMul, Int.reduceSub, Int.reduceNeg, Int.reduceEq, List.nil_append, List.cons_append, ↓r_keep, ↓r_isExc, ↓r_indexM, ↓r_lstL, ↓r_eqF, ↓r_neF, ↓r_eqM, ↓r_neM, ↓r_isiFr, ↓r_eqB, ↓r_neB, beq_self_eq_true, ↓r_cutO, ↓r_cutOL, ↓r_cutOP, hd])
      split
      · rename_i hle
        refine ⟨_, by omega, l + s, s.fdiv 2, rfl, rfl, by omega, hle, by omega, by omega, ?_⟩
        rcases hs2 with ⟨_, z, z2⟩ | ⟨j, _, z1, z2⟩
        · refine .inl ⟨z2, ?_⟩
          rw [z] at hn ⊢
          rw [show l + 1 + 1 = l + 2 * 1 by omega]
          exact hn
        · refine .inr ⟨j, z1, ?_⟩
          rw [z2, show l + s + s = l + 2 * s by omega]
          exact hn
      · rename_i hle
        refine ⟨_, by omega, l, s.fdiv 2, rfl, rfl, l0, l1, by omega, by omega, ?_⟩
        rcases hs2 with ⟨_, z, z2⟩ | ⟨j, _, z1, z2⟩
        · refine .inl ⟨z2, ?_⟩
          rw [z] at hle
          omega
        · refine .inr ⟨j, z1, ?_⟩
          rw [z2]
          omega
    · rename_i sp
      rcases hs with ⟨_, hn⟩ | ⟨k, hk, _⟩
      · exact h l l0 l1 hn
      · have : (0 : Int) < 2 ^ k := Int.pow_pos (by decide)
        omega
/-- the greatest divisor -/
def pr__law_common : DSp := fun ds μ P _ => ∃ a b, ds = [.int a, .int b] ∧ P (.int (Int.gcd a b : Nat)) μ
theorem len__law_common : ∀ ds μ P PX, pr__law_common ds μ P PX → ds.length = (["_law_one", "_law_other"] : List Str).length := by
  rintro ds μ P PX ⟨a, b, rfl, _⟩
  rfl
theorem ok__law_common {P : Program} {w : World} {K : PySem.W.Frag} {mg : Str → Option Value} {base : Heap} {f : Addr} {fd : FuncData} (F : Fun K "_law_common" "_law_common" s__law_common f fd)
    (m_abs : mg "abs" = none) : FnOk P w K mg base (L2.CX P w) 1 f fd ["_law_one", "_law_other"] (spD K pr__law_common) := by
  have nd := sc__law_common.nd
  refine fn_D (k := 0) F sc__law_common len__law_common (by decide) (fun cdv A outer s H E PX hr tk hp => ⟨_, (sd_cons (sd_while hp (pt_ne hr.units (vr 1) pd_int)
       (sd_one (sd_par 0 1 rfl nd (da_cons (vr 1) (da_cons (pd_mod (vr 0) (vr 1)) da_nil)))))
      (sd_one (sd_ret (pd_abs rfl m_abs (da_cons (vr 0) da_nil)))))⟩) ?_
  rintro ds μ P PX ⟨a, b, rfl, h⟩
  refine ⟨fun m ρ μ' => ∃ x y, ρ = [some (.int x), some (.int y)] ∧ μ' = μ ∧ m = y.natAbs ∧ Int.gcd x y = Int.gcd a b, ⟨_, a, b, rfl, rfl, rfl, rfl⟩, ?_⟩
  rintro m ρ μ' ⟨x, y, rfl, rfl, rfl, e⟩
  (try simp only [↓r_wm1, ↓r_wm2, ↓r_wm3, ↓r_wm4, ↓r_forT, ↓r_forI, ↓r_fU0, ↓r_fU1, ↓r_turn, ↓r_yes, ↓r_ofrz, ↓r_oown, ↓r_w0, ↓r_w1, ↓r_w2, ↓r_w3, ↓r_w4, ↓r_lcT, ↓r_lcI, ↓r_lcR, ↓r_cU0, ↓r_cU1, ↓r_s0, ↓r_n0, ↓r_s1, ↓r_n1, ↓r_s2, ↓r_n2, ↓r_s3, ↓r_n3, ↓r_s4, ↓r_n4, ↓r_s5, ↓r_n5, ↓r_s6, ↓r_n6, ↓r_s7, ↓r_n7, ↓r_s8, ↓r_n8, ↓r_s9, ↓r_n9, ↓r_s10, ↓r_n10, ↓r_s11, ↓r_n11, ↓r_s12, ↓r_n12, ↓r_s13, ↓r_n13, ↓r_s14, ↓r_n14, ↓r_s15, ↓r_n15, ↓r_s16, ↓r_n16, ↓r_s17, ↓r_n17, ↓r_s18, ↓r_n18, ↓r_s19, ↓r_n19, ↓r_s20, ↓r_n20, ↓r_s21, ↓r_n21, ↓r_s22, ↓r_n22, ↓r_s23, ↓r_n23, ↓r_s24, ↓r_n24, ↓r_s25, ↓r_n25, ↓r_fr0, ↓r_fr1, ↓r_frL, ↓r_frN, ↓r_frNN, ↓r_max3, ↓r_seq, ↓r_next, ↓r_var0, ↓r_varS, ↓r_c, ↓r_op, ↓r_addI, ↓r_addS, ↓r_addT, ↓r_addL, ↓r_sub, ↓r_mul, ↓r_div, ↓r_mod, ↓r_pow, ↓r_lt, ↓r_le, ↓r_gt, ↓r_ge, ↓r_eqI, ↓r_neI, ↓r_isN, ↓r_isT, ↓r_isI, ↓r_isR, ↓r_inN, ↓r_inT, ↓r_inI, ↓r_ixT, ↓r_ixLs, ↓r_ixRo, ↓r_ixP, ↓r_at0, ↓r_at1, ↓r_at2, ↓r_at3, ↓r_neg, ↓r_negC, ↓r_b, ↓r_bl, ↓r_and, ↓r_or, ↓r_not, ↓r_andV, ↓r_orV, ↓r_notV, ↓r_bl', ↓r_if, ↓r_ifS, ↓r_asg, ↓r_name, ↓r_jnil, ↓r_jcons, ↓r_jtup, ↓r_jlst, ↓r_jlstP, ↓r_jsub, ↓r_jcut, ↓r_jcutP, ↓r_jcutA, ↓r_in2, ↓r_stP, ↓r_st0, ↓r_st1, ↓r_st2, ↓r_par, ↓r_ret, ↓r_retN, ↓r_drop, ↓r_brk, ↓r_cont, ↓r_raise, ↓r_nil, ↓r_cons, ↓r_tup, ↓r_lst, ↓r_new, ↓r_frz, ↓r_frzP, ↓r_cb, ↓r_call, ↓r_abs, ↓r_max, ↓r_min, ↓r_intI, ↓r_intB, ↓r_lenT, ↓r_lenL, ↓r_lenR, ↓r_lenP, ↓r_listL, ↓r_listR, ↓r_listOL, ↓r_tupleL, ↓r_tupleP, ↓r_isiII, ↓r_isiIB, ↓r_isiBI, ↓r_isiBB, ↓r_isiTT, ↓r_isiLL, ↓r_app, ↓r_appP, ↓r_clr, ↓r_clrP, ↓r_lstP, ↓r_cut, ↓r_onone, ↓r_osome, ↓r_int', ↓r_cutT, ↓r_cutLs, ↓r_cutP, ↓r_range1, ↓r_rg1, ↓rs0, ↓rsS, ↓ite_dec, ↓ite_ndec, ↓put_put, startD, List.length_cons, List.length_nil, and_assoc, and_true, true_and, and_self, or_self, or_false, false_or, or_true, true_or, decide_eq_true_eq, decide_true, decide_false, Bool.not_true, Bool.not_false, Bool.false_eq_true, if_true, if_false, ↓reduceIte, ne_eq, Nat.reduceLeDiff, Nat.reduceAdd, not_false_eq_true, not_true_eq_false, reduceCtorEq, Option.some.injEq, Int.reduceToNat, Int.reducePow, Int.reduceAdd, Int.reduceMul, Int.reduceSub, Int.reduceNeg, Int.reduceEq, List.nil_append, List.cons_append, ↓r_keep, ↓r_isExc, ↓r_indexM, ↓r_lstL, ↓r_eqF, ↓r_neF, ↓r_eqM, ↓r_neM, ↓r_isiFr, ↓r_eqB, ↓r_neB, beq_self_eq_true, ↓r_cutO, ↓r_cutOL, ↓r_cutOP])
  split
  · rename_i hy
    exact ⟨hy, _, fmod_lt hy, _, _, rfl, rfl, (gcd_fmod x y).trans e⟩
  · rename_i hy
    have hy' : y = 0 := Decidable.of_not_not hy
    rw [← e, hy', Int.gcd_zero] at h
    exact h
def pr__law_class (a : Addr) : DSp := fun ds μ P _ => ds = [.exc (.ref a)] ∧ P (.str "NoFraction") μ
theorem len__law_class {a : Addr} : ∀ ds μ P PX, pr__law_class a ds μ P PX → ds.length = (["_law_error"] : List Str).length := by
  rintro ds μ P PX ⟨rfl, _⟩
  rfl
theorem ok__law_class {P : Program} {w : World} {K : PySem.W.Frag} {mg : Str → Option Value} {base : Heap} {f : Addr} {fd : FuncData} {a_NoFraction : Addr}
    {a_NoBetween : Addr}
    {a_NoCurve : Addr}
    {a_Taken : Addr}
    {a_NoName : Addr}
    {a_NoWord : Addr}
    {a_Past : Addr}
    {a_Missing : Addr}
    {a_Full : Addr}
    {a_NoDistance : Addr}
    {a_NoMoment : Addr}
    {a_NoDeed : Addr}
    {a_NoLine : Addr}
    {a_NoText : Addr}
    {a_PaceError : Addr}
    (F : Fun K "_law_class" "_law_class" s__law_class f fd)
    (n_NoBetween : mg "NoBetween" = some (.ref a_NoBetween))
    (n_NoCurve : mg "NoCurve" = some (.ref a_NoCurve))
    (n_NoFraction : mg "NoFraction" = some (.ref a_NoFraction))
    (n_Taken : mg "Taken" = some (.ref a_Taken))
    (n_NoName : mg "NoName" = some (.ref a_NoName))
    (n_NoWord : mg "NoWord" = some (.ref a_NoWord))
    (n_Past : mg "Past" = some (.ref a_Past))
    (n_Missing : mg "Missing" = some (.ref a_Missing))
    (n_Full : mg "Full" = some (.ref a_Full))
    (n_NoDistance : mg "NoDistance" = some (.ref a_NoDistance))
    (n_NoMoment : mg "NoMoment" = some (.ref a_NoMoment))
    (n_NoDeed : mg "NoDeed" = some (.ref a_NoDeed))
    (n_NoLine : mg "NoLine" = some (.ref a_NoLine))
    (n_NoText : mg "NoText" = some (.ref a_NoText))
    (n_PaceError : mg "PaceError" = some (.ref a_PaceError))
    (ec_NoFraction : ExcC K a_NoFraction)
    (kt_NoFraction_NoBetween : PySem.W.kitOne K (.ref a_NoFraction) (.ref a_NoBetween) = some false)
    (kt_NoFraction_NoCurve : PySem.W.kitOne K (.ref a_NoFraction) (.ref a_NoCurve) = some false)
    (kt_NoFraction_NoFraction : PySem.W.kitOne K (.ref a_NoFraction) (.ref a_NoFraction) = some true)
    (kt_NoFraction_Taken : PySem.W.kitOne K (.ref a_NoFraction) (.ref a_Taken) = some false)
    (kt_NoFraction_NoName : PySem.W.kitOne K (.ref a_NoFraction) (.ref a_NoName) = some false)
    (kt_NoFraction_NoWord : PySem.W.kitOne K (.ref a_NoFraction) (.ref a_NoWord) = some false)
    (kt_NoFraction_Past : PySem.W.kitOne K (.ref a_NoFraction) (.ref a_Past) = some false)
    (kt_NoFraction_Missing : PySem.W.kitOne K (.ref a_NoFraction) (.ref a_Missing) = some false)
    (kt_NoFraction_Full : PySem.W.kitOne K (.ref a_NoFraction) (.ref a_Full) = some false)
    (kt_NoFraction_NoDistance : PySem.W.kitOne K (.ref a_NoFraction) (.ref a_NoDistance) = some false)
    (kt_NoFraction_NoMoment : PySem.W.kitOne K (.ref a_NoFraction) (.ref a_NoMoment) = some false)
    (kt_NoFraction_NoDeed : PySem.W.kitOne K (.ref a_NoFraction) (.ref a_NoDeed) = some false)
    (kt_NoFraction_NoLine : PySem.W.kitOne K (.ref a_NoFraction) (.ref a_NoLine) = some false)
    (kt_NoFraction_NoText : PySem.W.kitOne K (.ref a_NoFraction) (.ref a_NoText) = some false)
    (kt_NoFraction_ValueError : PySem.W.kitOne K (.ref a_NoFraction) (.type "ValueError") = some true)
    (kt_NoFraction_PaceError : PySem.W.kitOne K (.ref a_NoFraction) (.ref a_PaceError) = some true)
    (m_isinstance : mg "isinstance" = none)
    (m_int : mg "int" = none)
    (m_sum : mg "sum" = none)
    (m_ValueError : mg "ValueError" = none) : FnOk P w K mg base (L2.CX P w) 1 f fd ["_law_error"] (spD K (pr__law_class a_NoFraction)) := by
  have nd := sc__law_class.nd
  refine fn_D (k := 0) F sc__law_class len__law_class (by decide) (fun cdv A outer s H E PX hr tk hp => ⟨_, (sd_cons (sd_set 1 nd (pd_lst (da_cons (pd_isxK K (by rfl) (by rfl) m_isinstance (da_cons (vr 0) (da_cons (pd_clsG (by rfl) n_NoFraction) da_nil))) (da_cons (pd_isxK K (by rfl) (by rfl) m_isinstance (da_cons (vr 0) (da_cons (pd_clsG (by rfl) n_NoCurve) da_nil))) (da_cons (pd_isxK K (by rfl) (by rfl) m_isinstance (da_cons (vr 0) (da_cons (pd_clsG (by rfl) n_NoBetween) da_nil))) da_nil)))))
      (sd_cons (sd_set 1 nd (pd_add (vr 1) (pd_lst (da_cons (pd_isxK K (by rfl) (by rfl) m_isinstance (da_cons (vr 0) (da_cons (pd_clsG (by rfl) n_NoWord) da_nil))) (da_cons (pd_isxK K (by rfl) (by rfl) m_isinstance (da_cons (vr 0) (da_cons (pd_clsG (by rfl) n_NoName) da_nil))) (da_cons (pd_isxK K (by rfl) (by rfl) m_isinstance (da_cons (vr 0) (da_cons (pd_clsG (by rfl) n_Taken) da_nil))) da_nil))))))
      (sd_cons (sd_set 1 nd (pd_add (vr 1) (pd_lst (da_cons (pd_isxK K (by rfl) (by rfl) m_isinstance (da_cons (vr 0) (da_cons (pd_clsG (by rfl) n_Full) da_nil))) (da_cons (pd_isxK K (by rfl) (by rfl) m_isinstance (da_cons (vr 0) (da_cons (pd_clsG (by rfl) n_Missing) da_nil))) (da_cons (pd_isxK K (by rfl) (by rfl) m_isinstance (da_cons (vr 0) (da_cons (pd_clsG (by rfl) n_Past) da_nil))) da_nil))))))
      (sd_cons (sd_set 1 nd (pd_add (vr 1) (pd_lst (da_cons (pd_isxK K (by rfl) (by rfl) m_isinstance (da_cons (vr 0) (da_cons (pd_clsG (by rfl) n_NoDeed) da_nil))) (da_cons (pd_isxK K (by rfl) (by rfl) m_isinstance (da_cons (vr 0) (da_cons (pd_clsG (by rfl) n_NoMoment) da_nil))) (da_cons (pd_isxK K (by rfl) (by rfl) m_isinstance (da_cons (vr 0) (da_cons (pd_clsG (by rfl) n_NoDistance) da_nil))) da_nil))))))
      (sd_cons (sd_set 1 nd (pd_add (vr 1) (pd_lst (da_cons (pd_isxK K (by rfl) (by rfl) m_isinstance (da_cons (vr 0) (da_cons (pd_clsG (by rfl) n_NoText) da_nil))) (da_cons (pd_isxK K (by rfl) (by rfl) m_isinstance (da_cons (vr 0) (da_cons (pd_clsG (by rfl) n_NoLine) da_nil))) da_nil)))))
      (sd_cons (sd_if (pt_w (dw_or (pt_n (pt_b (pd_isxK K (by rfl) (by rfl) m_isinstance (da_cons (vr 0) (da_cons (pd_clsG (by rfl) n_PaceError) da_nil))))) (dw_or (pt_n (pt_b (pd_isxK K (by rfl) (by rfl) m_isinstance (da_cons (vr 0) (da_cons (pd_ty (n := "ValueError") (by rfl) m_ValueError (by decide +kernel)) da_nil))))) (dw_or1 (pt_ne hr.units (pd_sum (by rfl) (by rfl) m_sum (da_cons (pd_lcI rfl nd out_frz (vr 1) (own := [("_law_one", 2)]) ⟨blkOk_by (own := [("_law_one", 2)]) (N := ["_law_error", "_law_got", "_law_one", "_law_words"]) (sc := defScope s__law_class) (by decide +kernel), fun _ _ _ _ _ => (pg_name (i := 2) nd rfl (by first | exact Or.inl rfl | exact Or.inr rfl)), (hv_name 2 (by decide)), fun _ _ _ _ _ => dts_nil, fun _ _ _ _ _ => (pd_toint (by rfl) m_int (da_cons (vr 2) da_nil))⟩) da_nil)) pd_int)))))
       (sd_one (sd_ret pd_str))
       sd_nil)
      (sd_cons (sd_set 3 nd (pd_lst (da_cons pd_str (da_cons pd_str (da_cons pd_str (da_cons pd_str (da_cons pd_str (da_cons pd_str (da_cons pd_str (da_cons pd_str (da_cons pd_str (da_cons pd_str da_nil))))))))))))
      (sd_one (sd_ret (pd_ix (pd_add (vr 3) (pd_lst (da_cons pd_str (da_cons pd_str (da_cons pd_str (da_cons pd_str da_nil)))))) (pd_index hr.u65 (vr 1) (da_cons pd_bl da_nil))))))))))))⟩) ?_
  rintro ds μ P PX ⟨rfl, h⟩
  (try simp only [↓r_wm1, ↓r_wm2, ↓r_wm3, ↓r_wm4, ↓r_forT, ↓r_forI, ↓r_fU0, ↓r_fU1, ↓r_turn, ↓r_yes, ↓r_ofrz, ↓r_oown, ↓r_w0, ↓r_w1, ↓r_w2, ↓r_w3, ↓r_w4, ↓r_lcT, ↓r_lcI, ↓r_lcR, ↓r_cU0, ↓r_cU1, ↓r_s0, ↓r_n0, ↓r_s1, ↓r_n1, ↓r_s2, ↓r_n2, ↓r_s3, ↓r_n3, ↓r_s4, ↓r_n4, ↓r_s5, ↓r_n5, ↓r_s6, ↓r_n6, ↓r_s7, ↓r_n7, ↓r_s8, ↓r_n8, ↓r_s9, ↓r_n9, ↓r_s10, ↓r_n10, ↓r_s11, ↓r_n11, ↓r_s12, ↓r_n12, ↓r_s13, ↓r_n13, ↓r_s14, ↓r_n14, ↓r_s15, ↓r_n15, ↓r_s16, ↓r_n16, ↓r_s17, ↓r_n17, ↓r_s18, ↓r_n18, ↓r_s19, ↓r_n19, ↓r_s20, ↓r_n20, ↓r_s21, ↓r_n21, ↓r_s22, ↓r_n22, ↓r_s23, ↓r_n23, ↓r_s24, ↓r_n24, ↓r_s25, ↓r_n25, ↓r_fr0, ↓r_fr1, ↓r_frL, ↓r_frN, ↓r_frNN, ↓r_max3, ↓r_seq, ↓r_next, ↓r_var0, ↓r_varS, ↓r_c, ↓r_op, ↓r_addI, ↓r_addS, ↓r_addT, ↓r_addL, ↓r_sub, ↓r_mul, ↓r_div, ↓r_mod, ↓r_pow, ↓r_lt, ↓r_le, ↓r_gt, ↓r_ge, ↓r_eqI, ↓r_neI, ↓r_isN, ↓r_isT, ↓r_isI, ↓r_isR, ↓r_inN, ↓r_inT, ↓r_inI, ↓r_ixT, ↓r_ixLs, ↓r_ixRo, ↓r_ixP, ↓r_at0, ↓r_at1, ↓r_at2, ↓r_at3, ↓r_neg, ↓r_negC, ↓r_b, ↓r_bl, ↓r_and, ↓r_or, ↓r_not, ↓r_andV, ↓r_orV, ↓r_notV, ↓r_bl', ↓r_if, ↓r_ifS, ↓r_asg, ↓r_name, ↓r_jnil, ↓r_jcons, ↓r_jtup, ↓r_jlst, ↓r_jlstP, ↓r_jsub, ↓r_jcut, ↓r_jcutP, ↓r_jcutA, ↓r_in2, ↓r_stP, ↓r_st0, ↓r_st1, ↓r_st2, ↓r_par, ↓r_ret, ↓r_retN, ↓r_drop, ↓r_brk, ↓r_cont, ↓r_raise, ↓r_nil, ↓r_cons, ↓r_tup, ↓r_lst, ↓r_new, ↓r_frz, ↓r_frzP, ↓r_cb, ↓r_call, ↓r_abs, ↓r_max, ↓r_min, ↓r_intI, ↓r_intB, ↓r_lenT, ↓r_lenL, ↓r_lenR, ↓r_lenP, ↓r_listL, ↓r_listR, ↓r_listOL, ↓r_tupleL, ↓r_tupleP, ↓r_isiII, ↓r_isiIB, ↓r_isiBI, ↓r_isiBB, ↓r_isiTT, ↓r_isiLL, ↓r_app, ↓r_appP, ↓r_clr, ↓r_clrP, ↓r_lstP, ↓r_cut, ↓r_onone, ↓r_osome, ↓r_int', ↓r_cutT, ↓r_cutLs, ↓r_cutP, ↓r_range1, ↓r_rg1, ↓rs0, ↓rsS, ↓ite_dec, ↓ite_ndec, ↓put_put, startD, List.length_cons, List.length_nil, and_assoc, and_true, true_and, and_self, or_self, or_false, false_or, or_true, true_or, decide_eq_true_eq, decide_true, decide_false, Bool.not_true, Bool.not_false, Bool.false_eq_true, if_true, if_false, ↓reduceIte, ne_eq, Nat.reduceLeDiff, Nat.reduceAdd, not_false_eq_true, not_true_eq_false, reduceCtorEq, Option.some.injEq, Int.reduceToNat, Int.reducePow, Int.reduceAdd, Int.reduceMul, Int.reduceSub, Int.reduceNeg, Int.reduceEq, List.nil_append, List.cons_append, ↓r_keep, ↓r_isExc, ↓r_indexM, ↓r_lstL, ↓r_eqF, ↓r_neF, ↓r_eqM, ↓r_neM, ↓r_isiFr, ↓r_eqB, ↓r_neB, beq_self_eq_true, ↓r_cutO, ↓r_cutOL, ↓r_cutOP, ↓r_isxR ec_NoFraction kt_NoFraction_NoFraction, ↓r_isxR ec_NoFraction kt_NoFraction_NoCurve, ↓r_isxR ec_NoFraction kt_NoFraction_NoBetween, ↓r_isxR ec_NoFraction kt_NoFraction_NoWord, ↓r_isxR ec_NoFraction kt_NoFraction_NoName, ↓r_isxR ec_NoFraction kt_NoFraction_Taken, ↓r_isxR ec_NoFraction kt_NoFraction_Full, ↓r_isxR ec_NoFraction kt_NoFraction_Missing, ↓r_isxR ec_NoFraction kt_NoFraction_Past, ↓r_isxR ec_NoFraction kt_NoFraction_NoDeed, ↓r_isxR ec_NoFraction kt_NoFraction_NoMoment, ↓r_isxR ec_NoFraction kt_NoFraction_NoDistance, ↓r_isxR ec_NoFraction kt_NoFraction_NoText, ↓r_isxR ec_NoFraction kt_NoFraction_NoLine, ↓r_isxR ec_NoFraction kt_NoFraction_PaceError, ↓r_isxT ec_NoFraction kt_NoFraction_ValueError])
  have sl : ∀ {n}, n ≤ 1000 → n ≤ sizeLine := fun h => line1000 h
  refine ⟨sl (by decide), sl (by decide), sl (by decide), sl (by decide), lcI_u (fun _ => rfl) (by decide) ?_⟩
  (try simp only [↓r_wm1, ↓r_wm2, ↓r_wm3, ↓r_wm4, ↓r_forT, ↓r_forI, ↓r_fU0, ↓r_fU1, ↓r_turn, ↓r_yes, ↓r_ofrz, ↓r_oown, ↓r_w0, ↓r_w1, ↓r_w2, ↓r_w3, ↓r_w4, ↓r_lcT, ↓r_lcI, ↓r_lcR, ↓r_cU0, ↓r_cU1, ↓r_s0, ↓r_n0, ↓r_s1, ↓r_n1, ↓r_s2, ↓r_n2, ↓r_s3, ↓r_n3, ↓r_s4, ↓r_n4, ↓r_s5, ↓r_n5, ↓r_s6, ↓r_n6, ↓r_s7, ↓r_n7, ↓r_s8, ↓r_n8, ↓r_s9, ↓r_n9, ↓r_s10, ↓r_n10, ↓r_s11, ↓r_n11, ↓r_s12, ↓r_n12, ↓r_s13, ↓r_n13, ↓r_s14, ↓r_n14, ↓r_s15, ↓r_n15, ↓r_s16, ↓r_n16, ↓r_s17, ↓r_n17, ↓r_s18, ↓r_n18, ↓r_s19, ↓r_n19, ↓r_s20, ↓r_n20, ↓r_s21, ↓r_n21, ↓r_s22, ↓r_n22, ↓r_s23, ↓r_n23, ↓r_s24, ↓r_n24, ↓r_s25, ↓r_n25, ↓r_fr0, ↓r_fr1, ↓r_frL, ↓r_frN, ↓r_frNN, ↓r_max3, ↓r_seq, ↓r_next, ↓r_var0, ↓r_varS, ↓r_c, ↓r_op, ↓r_addI, ↓r_addS, ↓r_addT, ↓r_addL, ↓r_sub, ↓r_mul, ↓r_div, ↓r_mod, ↓r_pow, ↓r_lt, ↓r_le, ↓r_gt, ↓r_ge, ↓r_eqI, ↓r_neI, ↓r_isN, ↓r_isT, ↓r_isI, ↓r_isR, ↓r_inN, ↓r_inT, ↓r_inI, ↓r_ixT, ↓r_ixLs, ↓r_ixRo, ↓r_ixP, ↓r_at0, ↓r_at1, ↓r_at2, ↓r_at3, ↓r_neg, ↓r_negC, ↓r_b, ↓r_bl, ↓r_and, ↓r_or, ↓r_not, ↓r_andV, ↓r_orV, ↓r_notV, ↓r_bl', ↓r_if, ↓r_ifS, ↓r_asg, ↓r_name, ↓r_jnil, ↓r_jcons, ↓r_jtup, ↓r_jlst, ↓r_jlstP, ↓r_jsub, ↓r_jcut, ↓r_jcutP, ↓r_jcutA, ↓r_in2, ↓r_stP, ↓r_st0, ↓r_st1, ↓r_st2, ↓r_par, ↓r_ret, ↓r_retN, ↓r_drop, ↓r_brk, ↓r_cont, ↓r_raise, ↓r_nil, ↓r_cons, ↓r_tup, ↓r_lst, ↓r_new, ↓r_frz, ↓r_frzP, ↓r_cb, ↓r_call, ↓r_abs, ↓r_max, ↓r_min, ↓r_intI, ↓r_intB, ↓r_lenT, ↓r_lenL, ↓r_lenR, ↓r_lenP, ↓r_listL, ↓r_listR, ↓r_listOL, ↓r_tupleL, ↓r_tupleP, ↓r_isiII, ↓r_isiIB, ↓r_isiBI, ↓r_isiBB, ↓r_isiTT, ↓r_isiLL, ↓r_app, ↓r_appP, ↓r_clr, ↓r_clrP, ↓r_lstP, ↓r_cut, ↓r_onone, ↓r_osome, ↓r_int', ↓r_cutT, ↓r_cutLs, ↓r_cutP, ↓r_range1, ↓r_rg1, ↓rs0, ↓rsS, ↓ite_dec, ↓ite_ndec, ↓put_put, startD, List.length_cons, List.length_nil, and_assoc, and_true, true_and, and_self, or_self, or_false, false_or, or_true, true_or, decide_eq_true_eq, decide_true, decide_false, Bool.not_true, Bool.not_false, Bool.false_eq_true, if_true, if_false, ↓reduceIte, ne_eq, Nat.reduceLeDiff, Nat.reduceAdd, not_false_eq_true, not_true_eq_false, reduceCtorEq, Option.some.injEq, Int.reduceToNat, Int.reducePow, Int.reduceAdd, Int.reduceMul, Int.reduceSub, Int.reduceNeg, Int.reduceEq, List.nil_append, List.cons_append, ↓r_keep, ↓r_isExc, ↓r_indexM, ↓r_lstL, ↓r_eqF, ↓r_neF, ↓r_eqM, ↓r_neM, ↓r_isiFr, ↓r_eqB, ↓r_neB, beq_self_eq_true, ↓r_cutO, ↓r_cutOL, ↓r_cutOP])
  refine ⟨_, [1, 0, 0, 0, 0, 0, 0, 0, 0, 0, 0, 0, 0, 0], rfl, rfl, ?_⟩
  have e1 : List.sum ([1, 0, 0, 0, 0, 0, 0, 0, 0, 0, 0, 0, 0, 0] : List Int) = 1 := by decide
  rw [e1]
  (try simp only [↓r_wm1, ↓r_wm2, ↓r_wm3, ↓r_wm4, ↓r_forT, ↓r_forI, ↓r_fU0, ↓r_fU1, ↓r_turn, ↓r_yes, ↓r_ofrz, ↓r_oown, ↓r_w0, ↓r_w1, ↓r_w2, ↓r_w3, ↓r_w4, ↓r_lcT, ↓r_lcI, ↓r_lcR, ↓r_cU0, ↓r_cU1, ↓r_s0, ↓r_n0, ↓r_s1, ↓r_n1, ↓r_s2, ↓r_n2, ↓r_s3, ↓r_n3, ↓r_s4, ↓r_n4, ↓r_s5, ↓r_n5, ↓r_s6, ↓r_n6, ↓r_s7, ↓r_n7, ↓r_s8, ↓r_n8, ↓r_s9, ↓r_n9, ↓r_s10, ↓r_n10, ↓r_s11, ↓r_n11, ↓r_s12, ↓r_n12, ↓r_s13, ↓r_n13, ↓r_s14, ↓r_n14, ↓r_s15, ↓r_n15, ↓r_s16, ↓r_n16, ↓r_s17, ↓r_n17, ↓r_s18, ↓r_n18, ↓r_s19, ↓r_n19, ↓r_s20, ↓r_n20, ↓r_s21, ↓r_n21, ↓r_s22, ↓r_n22, ↓r_s23, ↓r_n23, ↓r_s24, ↓r_n24, ↓r_s25, ↓r_n25, ↓r_fr0, ↓r_fr1, ↓r_frL, ↓r_frN, ↓r_frNN, ↓r_max3, ↓r_seq, ↓r_next, ↓r_var0, ↓r_varS, ↓r_c, ↓r_op, ↓r_addI, ↓r_addS, ↓r_addT, ↓r_addL, ↓r_sub, ↓r_mul, ↓r_div, ↓r_mod, ↓r_pow, ↓r_lt, ↓r_le, ↓r_gt, ↓r_ge, ↓r_eqI, ↓r_neI, ↓r_isN, ↓r_isT, ↓r_isI, ↓r_isR, ↓r_inN, ↓r_inT, ↓r_inI, ↓r_ixT, ↓r_ixLs, ↓r_ixRo, ↓r_ixP, ↓r_at0, ↓r_at1, ↓r_at2, ↓r_at3, ↓r_neg, ↓r_negC, ↓r_b, ↓r_bl, ↓r_and, ↓r_or, ↓r_not, ↓r_andV, ↓r_orV, ↓r_notV, ↓r_bl', ↓r_if, ↓r_ifS, ↓r_asg, ↓r_name, ↓r_jnil, ↓r_jcons, ↓r_jtup, ↓r_jlst, ↓r_jlstP, ↓r_jsub, ↓r_jcut, ↓r_jcutP, ↓r_jcutA, ↓r_in2, ↓r_stP, ↓r_st0, ↓r_st1, ↓r_st2, ↓r_par, ↓r_ret, ↓r_retN, ↓r_drop, ↓r_brk, ↓r_cont, ↓r_raise, ↓r_nil, ↓r_cons, ↓r_tup, ↓r_lst, ↓r_new, ↓r_frz, ↓r_frzP, ↓r_cb, ↓r_call, ↓r_abs, ↓r_max, ↓r_min, ↓r_intI, ↓r_intB, ↓r_lenT, ↓r_lenL, ↓r_lenR, ↓r_lenP, ↓r_listL, ↓r_listR, ↓r_listOL, ↓r_tupleL, ↓r_tupleP, ↓r_isiII, ↓r_isiIB, ↓r_isiBI, ↓r_isiBB, ↓r_isiTT, ↓r_isiLL, ↓r_app, ↓r_appP, ↓r_clr, ↓r_clrP, ↓r_lstP, ↓r_cut, ↓r_onone, ↓r_osome, ↓r_int', ↓r_cutT, ↓r_cutLs, ↓r_cutP, ↓r_range1, ↓r_rg1, ↓rs0, ↓rsS, ↓ite_dec, ↓ite_ndec, ↓put_put, startD, List.length_cons, List.length_nil, and_assoc, and_true, true_and, and_self, or_self, or_false, false_or, or_true, true_or, decide_eq_true_eq, decide_true, decide_false, Bool.not_true, Bool.not_false, Bool.false_eq_true, if_true, if_false, ↓reduceIte, ne_eq, Nat.reduceLeDiff, Nat.reduceAdd, not_false_eq_true, not_true_eq_false, reduceCtorEq, Option.some.injEq, Int.reduceToNat, Int.reducePow, Int.reduceAdd, Int.reduceMul, Int.reduceSub, Int.reduceNeg, Int.reduceEq, List.nil_append, List.cons_append, ↓r_keep, ↓r_isExc, ↓r_indexM, ↓r_lstL, ↓r_eqF, ↓r_neF, ↓r_eqM, ↓r_neM, ↓r_isiFr, ↓r_eqB, ↓r_neB, beq_self_eq_true, ↓r_cutO, ↓r_cutOL, ↓r_cutOP])
  refine ⟨sl (by decide), ⟨_, rfl⟩, .bl true, .bool true, [.bool true, .bool false, .bool false, .bool false, .bool false, .bool false, .bool false, .bool false, .bool false, .bool false, .bool false, .bool false, .bool false, .bool false], 0, .bool true, rfl, rfl, rfl, by decide +kernel, by decide +kernel, rfl, by decide +kernel, ?_, ?_⟩
  · intro m z hm hz
    have key : ∀ m, m < 0 → PyData.eqv (([.bool true, .bool false, .bool false, .bool false, .bool false, .bool false, .bool false, .bool false, .bool false, .bool false, .bool false, .bool false, .bool false, .bool false] : List PyData).getD m .none) (.bool true) = false := by decide +kernel
    have e : ([.bool true, .bool false, .bool false, .bool false, .bool false, .bool false, .bool false, .bool false, .bool false, .bool false, .bool false, .bool false, .bool false, .bool false] : List PyData).getD m .none = z := by rw [List.getD_eq_getElem?_getD, hz]; rfl
    rw [← e]
    exact key m hm
  · (try simp only [↓r_wm1, ↓r_wm2, ↓r_wm3, ↓r_wm4, ↓r_forT, ↓r_forI, ↓r_fU0, ↓r_fU1, ↓r_turn, ↓r_yes, ↓r_ofrz, ↓r_oown, ↓r_w0, ↓r_w1, ↓r_w2, ↓r_w3, ↓r_w4, ↓r_lcT, ↓r_lcI, ↓r_lcR, ↓r_cU0, ↓r_cU1, ↓r_s0, ↓r_n0, ↓r_s1, ↓r_n1, ↓r_s2, ↓r_n2, ↓r_s3, ↓r_n3, ↓r_s4, ↓r_n4, ↓r_s5, ↓r_n5, ↓r_s6, ↓r_n6, ↓r_s7, ↓r_n7, ↓r_s8, ↓r_n8, ↓r_s9, ↓r_n9, ↓r_s10, ↓r_n10, ↓r_s11, ↓r_n11, ↓r_s12, ↓r_n12, ↓r_s13, ↓r_n13, ↓r_s14, ↓r_n14, ↓r_s15, ↓r_n15, ↓r_s16, ↓r_n16, ↓r_s17, ↓r_n17, ↓r_s18, ↓r_n18, ↓r_s19, ↓r_n19, ↓r_s20, ↓r_n20, ↓r_s21, ↓r_n21, ↓r_s22, ↓r_n22, ↓r_s23, ↓r_n23, ↓r_s24, ↓r_n24, ↓r_s25, ↓r_n25, ↓r_fr0, ↓r_fr1, ↓r_frL, ↓r_frN, ↓r_frNN, ↓r_max3, ↓r_seq, ↓r_next, ↓r_var0, ↓r_varS, ↓r_c, ↓r_op, ↓r_addI, ↓r_addS, ↓r_addT, ↓r_addL, ↓r_sub, ↓r_mul, ↓r_div, ↓r_mod, ↓r_pow, ↓r_lt, ↓r_le, ↓r_gt, ↓r_ge, ↓r_eqI, ↓r_neI, ↓r_isN, ↓r_isT, ↓r_isI, ↓r_isR, ↓r_inN, ↓r_inT, ↓r_inI, ↓r_ixT, ↓r_ixLs, ↓r_ixRo, ↓r_ixP, ↓r_at0, ↓r_at1, ↓r_at2, ↓r_at3, ↓r_neg, ↓r_negC, ↓r_b, ↓r_bl, ↓r_and, ↓r_or, ↓r_not, ↓r_andV, ↓r_orV, ↓r_notV, ↓r_bl', ↓r_if, ↓r_ifS, ↓r_asg, ↓r_name, ↓r_jnil, ↓r_jcons, ↓r_jtup, ↓r_jlst, ↓r_jlstP, ↓r_jsub, ↓r_jcut, ↓r_jcutP, ↓r_jcutA, ↓r_in2, ↓r_stP, ↓r_st0, ↓r_st1, ↓r_st2, ↓r_par, ↓r_ret, ↓r_retN, ↓r_drop, ↓r_brk, ↓r_cont, ↓r_raise, ↓r_nil, ↓r_cons, ↓r_tup, ↓r_lst, ↓r_new, ↓r_frz, ↓r_frzP, ↓r_cb, ↓r_call, ↓r_abs, ↓r_max, ↓r_min, ↓r_intI, ↓r_intB, ↓r_lenT, ↓r_lenL, ↓r_lenR, ↓r_lenP, ↓r_listL, ↓r_listR, ↓r_listOL, ↓r_tupleL, ↓r_tupleP, ↓r_isiII, ↓r_isiIB, ↓r_isiBI, ↓r_isiBB, ↓r_isiTT, ↓r_isiLL, ↓r_app, ↓r_appP, ↓r_clr, ↓r_clrP, ↓r_lstP, ↓r_cut, ↓r_onone, ↓r_osome, ↓r_int', ↓r_cutT, ↓r_cutLs, ↓r_cutP, ↓r_range1, ↓r_rg1, ↓rs0, ↓rsS, ↓ite_dec, ↓ite_ndec, ↓put_put, startD, List.length_cons, List.length_nil, and_assoc, and_true, true_and, and_self, or_self, or_false, false_or, or_true, true_or, decide_eq_true_eq, decide_true, decide_false, Bool.not_true, Bool.not_false, Bool.false_eq_true, if_true, if_false, ↓reduceIte, ne_eq, Nat.reduceLeDiff, Nat.reduceAdd, not_false_eq_true, not_true_eq_false, reduceCtorEq, Option.some.injEq, Int.reduceToNat, Int.reducePow, Int.reduceAdd, Int.reduceMul, Int.reduceSub, Int.reduceNeg, Int.reduceEq, List.nil_append, List.cons_append, ↓r_keep, ↓r_isExc, ↓r_indexM, ↓r_lstL, ↓r_eqF, ↓r_neF, ↓r_eqM, ↓r_neM, ↓r_isiFr, ↓r_eqB, ↓r_neB, beq_self_eq_true, ↓r_cutO, ↓r_cutOL, ↓r_cutOP])
    rw [r_at (by omega)]
    exact ⟨_, rfl, h⟩
def pr_fraction : DSp := fun ds μ P _ => ∃ a b, ds = [.int a, .int b] ∧ b ≠ 0 ∧ Bd 9000 b ∧ P (fr (low a b)) μ
theorem len_fraction : ∀ ds μ P PX, pr_fraction ds μ P PX → ds.length = (["top", "bottom"] : List Str).length := by
  rintro ds μ P PX ⟨a, b, rfl, _⟩
  rfl
theorem ok_fraction {P : Program} {w : World} {K : PySem.W.Frag} {mg : Str → Option Value} {base : Heap} {f : Addr} {fd : FuncData} (F : Fun K "fraction" "fraction" s_fraction f fd)
    (d_divisor : Df P w K mg base "divisor" ["one", "two"] 1 pr_divisor) : FnOk P w K mg base (L2.CX P w) 2 f fd ["top", "bottom"] (spD K pr_fraction) := by
  have nd := sc_fraction.nd
  refine fn_D (k := 1) F sc_fraction len_fraction (by decide) (fun cdv A outer s H E PX hr tk hp => ⟨_, (sd_cons (sd_if (pt_eq hr.units (vr 1) pd_int)
       (sd_one sd_never)
       sd_nil)
      (sd_cons (sd_set 2 nd (pd_call d_divisor tk hr (by rfl) (da_cons (vr 0) (da_cons (vr 1) da_nil))))
      (sd_cons (sd_if (pt_lt (vr 1) pd_int)
       (sd_one (sd_set 2 nd (pd_sub pd_int (vr 2))))
       sd_nil)
      (sd_one (sd_ret (pd_tup (da_cons (pd_div (vr 0) (vr 2)) (da_cons (pd_div (vr 1) (vr 2)) da_nil))))))))⟩) ?_
  rintro ds μ P PX ⟨a, b, rfl, hb, hd, h⟩
  have h0 := gsg_ne (a := a) hb
  have h1 := (gsg_bd (a := a) hb hd)
  unfold fr low gsg at h
  unfold gsg at h0 h1
  (try simp only [↓r_wm1, ↓r_wm2, ↓r_wm3, ↓r_wm4, ↓r_forT, ↓r_forI, ↓r_fU0, ↓r_fU1, ↓r_turn, ↓r_yes, ↓r_ofrz, ↓r_oown, ↓r_w0, ↓r_w1, ↓r_w2, ↓r_w3, ↓r_w4, ↓r_lcT, ↓r_lcI, ↓r_lcR, ↓r_cU0, ↓r_cU1, ↓r_s0, ↓r_n0, ↓r_s1, ↓r_n1, ↓r_s2, ↓r_n2, ↓r_s3, ↓r_n3, ↓r_s4, ↓r_n4, ↓r_s5, ↓r_n5, ↓r_s6, ↓r_n6, ↓r_s7, ↓r_n7, ↓r_s8, ↓r_n8, ↓r_s9, ↓r_n9, ↓r_s10, ↓r_n10, ↓r_s11, ↓r_n11, ↓r_s12, ↓r_n12, ↓r_s13, ↓r_n13, ↓r_s14, ↓r_n14, ↓r_s15, ↓r_n15, ↓r_s16, ↓r_n16, ↓r_s17, ↓r_n17, ↓r_s18, ↓r_n18, ↓r_s19, ↓r_n19, ↓r_s20, ↓r_n20, ↓r_s21, ↓r_n21, ↓r_s22, ↓r_n22, ↓r_s23, ↓r_n23, ↓r_s24, ↓r_n24, ↓r_s25, ↓r_n25, ↓r_fr0, ↓r_fr1, ↓r_frL, ↓r_frN, ↓r_frNN, ↓r_max3, ↓r_seq, ↓r_next, ↓r_var0, ↓r_varS, ↓r_c, ↓r_op, ↓r_addI, ↓r_addS, ↓r_addT, ↓r_addL, ↓r_sub, ↓r_mul, ↓r_div, ↓r_mod, ↓r_pow, ↓r_lt, ↓r_le, ↓r_gt, ↓r_ge, ↓r_eqI, ↓r_neI, ↓r_isN, ↓r_isT, ↓r_isI, ↓r_isR, ↓r_inN, ↓r_inT, ↓r_inI, ↓r_ixT, ↓r_ixLs, ↓r_ixRo, ↓r_ixP, ↓r_at0, ↓r_at1, ↓r_at2, ↓r_at3, ↓r_neg, ↓r_negC, ↓r_b, ↓r_bl, ↓r_and, ↓r_or, ↓r_not, ↓r_andV, ↓r_orV, ↓r_notV, ↓r_bl', ↓r_if, ↓r_ifS, ↓r_asg, ↓r_name, ↓r_jnil, ↓r_jcons, ↓r_jtup, ↓r_jlst, ↓r_jlstP, ↓r_jsub, ↓r_jcut, ↓r_jcutP, ↓r_jcutA, ↓r_in2, ↓r_stP, ↓r_st0, ↓r_st1, ↓r_st2, ↓r_par, ↓r_ret, ↓r_retN, ↓r_drop, ↓r_brk, ↓r_cont, ↓r_raise, ↓r_nil, ↓r_cons, ↓r_tup, ↓r_lst, ↓r_new, ↓r_frz, ↓r_frzP, ↓r_cb, ↓r_call, ↓r_abs, ↓r_max, ↓r_min, ↓r_intI, ↓r_intB, ↓r_lenT, ↓r_lenL, ↓r_lenR, ↓r_lenP, ↓r_listL, ↓r_listR, ↓r_listOL, ↓r_tupleL, ↓r_tupleP, ↓r_isiII, ↓r_isiIB, ↓r_isiBI, ↓r_isiBB, ↓r_isiTT, ↓r_isiLL, ↓r_app, ↓r_appP, ↓r_clr, ↓r_clrP, ↓r_lstP, ↓r_cut, ↓r_onone, ↓r_osome, ↓r_int', ↓r_cutT, ↓r_cutLs, ↓r_cutP, ↓r_range1, ↓r_rg1, ↓rs0, ↓rsS, ↓ite_dec, ↓ite_ndec, ↓put_put, startD, List.length_cons, List.length_nil, and_assoc, and_true, true_and, and_self, or_self, or_false, false_or, or_true, true_or, decide_eq_true_eq, decide_true, decide_false, Bool.not_true, Bool.not_false, Bool.false_eq_true, if_true, if_false, ↓reduceIte, ne_eq, Nat.reduceLeDiff, Nat.reduceAdd, not_false_eq_true, not_true_eq_false, reduceCtorEq, Option.some.injEq, Int.reduceToNat, Int.reducePow, Int.reduceAdd, Int.reduceMul, Int.reduceSub, Int.reduceNeg, Int.reduceEq, List.nil_append, List.cons_append, ↓r_keep, ↓r_isExc, ↓r_indexM, ↓r_lstL, ↓r_eqF, ↓r_neF, ↓r_eqM, ↓r_neM, ↓r_isiFr, ↓r_eqB, ↓r_neB, beq_self_eq_true, ↓r_cutO, ↓r_cutOL, ↓r_cutOP, hb])
  refine ⟨a, b, rfl, ?_⟩
  (try simp only [↓r_wm1, ↓r_wm2, ↓r_wm3, ↓r_wm4, ↓r_forT, ↓r_forI, ↓r_fU0, ↓r_fU1, ↓r_turn, ↓r_yes, ↓r_ofrz, ↓r_oown, ↓r_w0, ↓r_w1, ↓r_w2, ↓r_w3, ↓r_w4, ↓r_lcT, ↓r_lcI, ↓r_lcR, ↓r_cU0, ↓r_cU1, ↓r_s0, ↓r_n0, ↓r_s1, ↓r_n1, ↓r_s2, ↓r_n2, ↓r_s3, ↓r_n3, ↓r_s4, ↓r_n4, ↓r_s5, ↓r_n5, ↓r_s6, ↓r_n6, ↓r_s7, ↓r_n7, ↓r_s8, ↓r_n8, ↓r_s9, ↓r_n9, ↓r_s10, ↓r_n10, ↓r_s11, ↓r_n11, ↓r_s12, ↓r_n12, ↓r_s13, ↓r_n13, ↓r_s14, ↓r_n14, ↓r_s15, ↓r_n15, ↓r_s16, ↓r_n16, ↓r_s17, ↓r_n17, ↓r_s18, ↓r_n18, ↓r_s19, ↓r_n19, ↓r_s20, ↓r_n20, ↓r_s21, ↓r_n21, ↓r_s22, ↓r_n22, ↓r_s23, ↓r_n23, ↓r_s24, ↓r_n24, ↓r_s25, ↓r_n25, ↓r_fr0, ↓r_fr1, ↓r_frL, ↓r_frN, ↓r_frNN, ↓r_max3, ↓r_seq, ↓r_next, ↓r_var0, ↓r_varS, ↓r_c, ↓r_op, ↓r_addI, ↓r_addS, ↓r_addT, ↓r_addL, ↓r_sub, ↓r_mul, ↓r_div, ↓r_mod, ↓r_pow, ↓r_lt, ↓r_le, ↓r_gt, ↓r_ge, ↓r_eqI, ↓r_neI, ↓r_isN, ↓r_isT, ↓r_isI, ↓r_isR, ↓r_inN, ↓r_inT, ↓r_inI, ↓r_ixT, ↓r_ixLs, ↓r_ixRo, ↓r_ixP, ↓r_at0, ↓r_at1, ↓r_at2, ↓r_at3, ↓r_neg, ↓r_negC, ↓r_b, ↓r_bl, ↓r_and, ↓r_or, ↓r_not, ↓r_andV, ↓r_orV, ↓r_notV, ↓r_bl', ↓r_if, ↓r_ifS, ↓r_asg, ↓r_name, ↓r_jnil, ↓r_jcons, ↓r_jtup, ↓r_jlst, ↓r_jlstP, ↓r_jsub, ↓r_jcut, ↓r_jcutP, ↓r_jcutA, ↓r_in2, ↓r_stP, ↓r_st0, ↓r_st1, ↓r_st2, ↓r_par, ↓r_ret, ↓r_retN, ↓r_drop, ↓r_brk, ↓r_cont, ↓r_raise, ↓r_nil, ↓r_cons, ↓r_tup, ↓r_lst, ↓r_new, ↓r_frz, ↓r_frzP, ↓r_cb, ↓r_call, ↓r_abs, ↓r_max, ↓r_min, ↓r_intI, ↓r_intB, ↓r_lenT, ↓r_lenL, ↓r_lenR, ↓r_lenP, ↓r_listL, ↓r_listR, ↓r_listOL, ↓r_tupleL, ↓r_tupleP, ↓r_isiII, ↓r_isiIB, ↓r_isiBI, ↓r_isiBB, ↓r_isiTT, ↓r_isiLL, ↓r_app, ↓r_appP, ↓r_clr, ↓r_clrP, ↓r_lstP, ↓r_cut, ↓r_onone, ↓r_osome, ↓r_int', ↓r_cutT, ↓r_cutLs, ↓r_cutP, ↓r_range1, ↓r_rg1, ↓rs0, ↓rsS, ↓ite_dec, ↓ite_ndec, ↓put_put, startD, List.length_cons, List.length_nil, and_assoc, and_true, true_and, and_self, or_self, or_false, false_or, or_true, true_or, decide_eq_true_eq, decide_true, decide_false, Bool.not_true, Bool.not_false, Bool.false_eq_true, if_true, if_false, ↓reduceIte, ne_eq, Nat.reduceLeDiff, Nat.reduceAdd, not_false_eq_true, not_true_eq_false, reduceCtorEq, Option.some.injEq, Int.reduceToNat, Int.reducePow, Int.reduceAdd, Int.reduceMul, Int.reduceSub, Int.reduceNeg, Int.reduceEq, List.nil_append, List.cons_append, ↓r_keep, ↓r_isExc, ↓r_indexM, ↓r_lstL, ↓r_eqF, ↓r_neF, ↓r_eqM, ↓r_neM, ↓r_isiFr, ↓r_eqB, ↓r_neB, beq_self_eq_true, ↓r_cutO, ↓r_cutOL, ↓r_cutOP])
  split
  · rename_i hl
    rw [if_pos hl] at h0 h1 h
    exact ⟨⟨h0, h1⟩, ⟨h0, h1⟩, h⟩
  · rename_i hl
    rw [if_neg hl] at h0 h1 h
    exact ⟨⟨h0, h1⟩, ⟨h0, h1⟩, h⟩
def pr_whole_curve : DSp := fun ds μ P _ => ∃ (u : Cur) (n : Nat), ds = [u.d] ∧ u.Ok n ∧ u.nz ∧ n ≤ 2000 ∧ P (wcur u).d μ
theorem len_whole_curve : ∀ ds μ P PX, pr_whole_curve ds μ P PX → ds.length = (["curve"] : List Str).length := by
  rintro ds μ P PX ⟨u, n, rfl, _⟩
  rfl
theorem ok_whole_curve {P : Program} {w : World} {K : PySem.W.Frag} {mg : Str → Option Value} {base : Heap} {f : Addr} {fd : FuncData} (F : Fun K "whole_curve" "whole_curve" s_whole_curve f fd)
    (d_divisor : Df P w K mg base "divisor" ["one", "two"] 1 pr_divisor)
    (m_tuple : mg "tuple" = none) : FnOk P w K mg base (L2.CX P w) 2 f fd ["curve"] (spD K pr_whole_curve) := by
  have nd := sc_whole_curve.nd
  refine fn_D (k := 1) F sc_whole_curve len_whole_curve (by decide) (fun cdv A outer s H E PX hr tk hp => ⟨_, (sd_cons (sd_set 1 nd pd_int)
      (sd_cons (sd_forT hp rfl (vr 0) (gd_name 2 nd)
       (sd_one (sd_set 1 nd (pd_div (pd_mul (vr 1) (pd_ix (vr 2) pd_int)) (pd_call d_divisor tk hr (by rfl) (da_cons (vr 1) (da_cons (pd_ix (vr 2) pd_int) da_nil)))))))
      (sd_cons (sd_lcT 3 rfl nd out_frz (vr 0) (own := [("part", 2)]) ⟨blkOk_by (own := [("part", 2)]) (N := ["curve", "by", "part", "found", "share", "number"]) (sc := defScope s_whole_curve) (by decide +kernel), fun _ _ _ _ _ => (pg_name (i := 2) nd rfl (by first | exact Or.inl rfl | exact Or.inr rfl)), (hv_name 2 (by decide)), fun _ _ _ _ _ => dts_nil, fun _ _ _ _ _ => (pd_mul (pd_ixK K (by rfl) (vr 2) pd_int) (pd_div (vr 1) (pd_ixK K (by rfl) (vr 2) pd_int)))⟩)
      (sd_cons (sd_set 4 nd (pd_call d_divisor tk hr (by rfl) (da_cons (pd_call d_divisor tk hr (by rfl) (da_cons (pd_ix (vr 3) pd_int) (da_cons (pd_ix (vr 3) pd_int) da_nil))) (da_cons (pd_ix (vr 3) pd_int) da_nil))))
      (sd_cons (sd_if (pt_lt (pd_ix (pd_lcI rfl nd out_frz (vr 3) (own := [("number", 5)]) ⟨blkOk_by (own := [("number", 5)]) (N := ["curve", "by", "part", "found", "share", "number"]) (sc := defScope s_whole_curve) (by decide +kernel), fun _ _ _ _ _ => (pg_name (i := 5) nd rfl (by first | exact Or.inl rfl | exact Or.inr rfl)), (hv_name 5 (by decide)), fun _ _ _ _ _ => (dts_one (pt_neK K (by rfl) hr.units (vr 5) pd_int)), fun _ _ _ _ _ => (vr 5)⟩) pd_int) pd_int)
       (sd_one (sd_set 4 nd (pd_sub pd_int (vr 4))))
       sd_nil)
      (sd_one (sd_ret (pd_tuple rfl m_tuple (da_cons (pd_lcI rfl nd out_frz (vr 3) (own := [("number", 5)]) ⟨blkOk_by (own := [("number", 5)]) (N := ["curve", "by", "part", "found", "share", "number"]) (sc := defScope s_whole_curve) (by decide +kernel), fun _ _ _ _ _ => (pg_name (i := 5) nd rfl (by first | exact Or.inl rfl | exact Or.inr rfl)), (hv_name 5 (by decide)), fun _ _ _ _ _ => dts_nil, fun _ _ _ _ _ => (pd_div (vr 5) (vr 4))⟩) da_nil)))))))))⟩) ?_
  rintro ds μ P PX ⟨u, n, rfl, hu, hz, hn, h⟩
  have A0 := hu.fa.1
  have B0 := hu.fb.1
  have C0 := hu.fc.1
  obtain ⟨p1, _, d1, l1⟩ := lcI_ok (x := 1) (by decide) A0
  have b1 : Bd (n + 1) (lcI 1 u.a.2) := (((show Bd 1 1 by decide).mul hu.ba.2).le l1).mono (by omega)
  obtain ⟨p2, k2, d2, l2⟩ := lcI_ok p1 B0
  have b2 : Bd (2 * n + 1) (lcI (lcI 1 u.a.2) u.b.2) := ((b1.mul hu.bb.2).le l2).mono (by omega)
  obtain ⟨p3, k3, d3, l3⟩ := lcI_ok p2 C0
  have b3 : Bd (3 * n + 1) (lcI (lcI (lcI 1 u.a.2) u.b.2) u.c.2) := ((b2.mul hu.bc.2).le l3).mono (by omega)
  have dA := Int.dvd_trans (Int.dvd_trans d1 k2) k3
  have dB := Int.dvd_trans d2 k3
  have eA := dvd_fdiv dA
  have eB := dvd_fdiv dB
  have eC := dvd_fdiv d3
  have fn := found_nrm hu hz (by omega) eA eB eC
  have cA : DivC (1 * u.a.2) (Int.gcd 1 u.a.2 : Nat) := divC (by have := gcd_ne (a := 1) hu.fa.ne; omega) (gcd_bdR hu.fa.ne hu.ba.2) (by omega)
  have cB : DivC (lcI 1 u.a.2 * u.b.2) (Int.gcd (lcI 1 u.a.2) u.b.2 : Nat) := divC (by have := gcd_ne (a := lcI 1 u.a.2) hu.fb.ne; omega) (gcd_bdR hu.fb.ne hu.bb.2) (by omega)
  have cC : DivC (lcI (lcI 1 u.a.2) u.b.2 * u.c.2) (Int.gcd (lcI (lcI 1 u.a.2) u.b.2) u.c.2 : Nat) := divC (by have := gcd_ne (a := lcI (lcI 1 u.a.2) u.b.2) hu.fc.ne; omega) (gcd_bdR hu.fc.ne hu.bc.2) (by omega)
  have ul : ∀ x y : Int, (x * y).fdiv (Int.gcd x y : Nat) = lcI x y := fun _ _ => rfl
  generalize hE : lcI (lcI (lcI 1 u.a.2) u.b.2) u.c.2 = e at *
  have qA : Bd (3 * n + 1) (e.fdiv u.a.2) := b3.le (by
    rw [← eA, Int.natAbs_mul]
    rw [show u.a.2 * e.fdiv u.a.2 = e from eA]
    exact Nat.le_mul_of_pos_left _ (Int.natAbs_pos.mpr hu.fa.ne))
  have qB : Bd (3 * n + 1) (e.fdiv u.b.2) := b3.le (by
    rw [← eB, Int.natAbs_mul]
    rw [show u.b.2 * e.fdiv u.b.2 = e from eB]
    exact Nat.le_mul_of_pos_left _ (Int.natAbs_pos.mpr hu.fb.ne))
  have qC : Bd (3 * n + 1) (e.fdiv u.c.2) := b3.le (by
    rw [← eC, Int.natAbs_mul]
    rw [show u.c.2 * e.fdiv u.c.2 = e from eC]
    exact Nat.le_mul_of_pos_left _ (Int.natAbs_pos.mpr hu.fc.ne))
  have vA : DivC e u.a.2 := divC hu.fa.ne hu.ba.2 (by omega)
  have vB : DivC e u.b.2 := divC hu.fb.ne hu.bb.2 (by omega)
  have vC : DivC e u.c.2 := divC hu.fc.ne hu.bc.2 (by omega)
  have mA : MulC u.a.1 (e.fdiv u.a.2) := mulC hu.ba.1 qA (by omega)
  have mB : MulC u.b.1 (e.fdiv u.b.2) := mulC hu.bb.1 qB (by omega)
  have mC : MulC u.c.1 (e.fdiv u.c.2) := mulC hu.bc.1 qC (by omega)
  have sA := (hu.ba.1.mul qA).mono (show _ ≤ 8500 by omega)
  have sB := (hu.bb.1.mul qB).mono (show _ ≤ 8500 by omega)
  have sC := (hu.bc.1.mul qC).mono (show _ ≤ 8500 by omega)
  have nz : ¬ (u.a.1 * e.fdiv u.a.2 = 0 ∧ u.b.1 * e.fdiv u.b.2 = 0 ∧ u.c.1 * e.fdiv u.c.2 = 0) := by
    have x0 : e.fdiv u.a.2 ≠ 0 := by intro w; rw [w] at eA; simp at eA; omega
    have y0 : e.fdiv u.b.2 ≠ 0 := by intro w; rw [w] at eB; simp at eB; omega
    have z0 : e.fdiv u.c.2 ≠ 0 := by intro w; rw [w] at eC; simp at eC; omega
    rintro ⟨h1, h2, h3⟩
    apply hz
    simp only [Int.mul_eq_zero] at h1 h2 h3
    simp_all
  have gp := g3_pos nz
  have gb := g3_bd nz sA sB sC
  unfold Cur.d
  (try simp only [↓r_wm1, ↓r_wm2, ↓r_wm3, ↓r_wm4, ↓r_forT, ↓r_forI, ↓r_fU0, ↓r_fU1, ↓r_turn, ↓r_yes, ↓r_ofrz, ↓r_oown, ↓r_w0, ↓r_w1, ↓r_w2, ↓r_w3, ↓r_w4, ↓r_lcT, ↓r_lcI, ↓r_lcR, ↓r_cU0, ↓r_cU1, ↓r_s0, ↓r_n0, ↓r_s1, ↓r_n1, ↓r_s2, ↓r_n2, ↓r_s3, ↓r_n3, ↓r_s4, ↓r_n4, ↓r_s5, ↓r_n5, ↓r_s6, ↓r_n6, ↓r_s7, ↓r_n7, ↓r_s8, ↓r_n8, ↓r_s9, ↓r_n9, ↓r_s10, ↓r_n10, ↓r_s11, ↓r_n11, ↓r_s12, ↓r_n12, ↓r_s13, ↓r_n13, ↓r_s14, ↓r_n14, ↓r_s15, ↓r_n15, ↓r_s16, ↓r_n16, ↓r_s17, ↓r_n17, ↓r_s18, ↓r_n18, ↓r_s19, ↓r_n19, ↓r_s20, ↓r_n20, ↓r_s21, ↓r_n21, ↓r_s22, ↓r_n22, ↓r_s23, ↓r_n23, ↓r_s24, ↓r_n24, ↓r_s25, ↓r_n25, ↓r_fr0, ↓r_fr1, ↓r_frL, ↓r_frN, ↓r_frNN, ↓r_max3, ↓r_seq, ↓r_next, ↓r_var0, ↓r_varS, ↓r_c, ↓r_op, ↓r_addI, ↓r_addS, ↓r_addT, ↓r_addL, ↓r_sub, ↓r_mul, ↓r_div, ↓r_mod, ↓r_pow, ↓r_lt, ↓r_le, ↓r_gt, ↓r_ge, ↓r_eqI, ↓r_neI, ↓r_isN, ↓r_isT, ↓r_isI, ↓r_isR, ↓r_inN, ↓r_inT, ↓r_inI, ↓r_ixT, ↓r_ixLs, ↓r_ixRo, ↓r_ixP, ↓r_at0, ↓r_at1, ↓r_at2, ↓r_at3, ↓r_neg, ↓r_negC, ↓r_b, ↓r_bl, ↓r_and, ↓r_or, ↓r_not, ↓r_andV, ↓r_orV, ↓r_notV, ↓r_bl', ↓r_if, ↓r_ifS, ↓r_asg, ↓r_name, ↓r_jnil, ↓r_jcons, ↓r_jtup, ↓r_jlst, ↓r_jlstP, ↓r_jsub, ↓r_jcut, ↓r_jcutP, ↓r_jcutA, ↓r_in2, ↓r_stP, ↓r_st0, ↓r_st1, ↓r_st2, ↓r_par, ↓r_ret, ↓r_retN, ↓r_drop, ↓r_brk, ↓r_cont, ↓r_raise, ↓r_nil, ↓r_cons, ↓r_tup, ↓r_lst, ↓r_new, ↓r_frz, ↓r_frzP, ↓r_cb, ↓r_call, ↓r_abs, ↓r_max, ↓r_min, ↓r_intI, ↓r_intB, ↓r_lenT, ↓r_lenL, ↓r_lenR, ↓r_lenP, ↓r_listL, ↓r_listR, ↓r_listOL, ↓r_tupleL, ↓r_tupleP, ↓r_isiII, ↓r_isiIB, ↓r_isiBI, ↓r_isiBB, ↓r_isiTT, ↓r_isiLL, ↓r_app, ↓r_appP, ↓r_clr, ↓r_clrP, ↓r_lstP, ↓r_cut, ↓r_onone, ↓r_osome, ↓r_int', ↓r_cutT, ↓r_cutLs, ↓r_cutP, ↓r_range1, ↓r_rg1, ↓rs0, ↓rsS, ↓ite_dec, ↓ite_ndec, ↓put_put, startD, List.length_cons, List.length_nil, and_assoc, and_true, true_and, and_self, or_self, or_false, false_or, or_true, true_or, decide_eq_true_eq, decide_true, decide_false, Bool.not_true, Bool.not_false, Bool.false_eq_true, if_true, if_false, ↓reduceIte, ne_eq, Nat.reduceLeDiff, Nat.reduceAdd, not_false_eq_true, not_true_eq_false, reduceCtorEq, Option.some.injEq, Int.reduceToNat, Int.reducePow, Int.reduceAdd, Int.reduceMul, Int.reduceSub, Int.reduceNeg, Int.reduceEq, List.nil_append, List.cons_append, ↓r_keep, ↓r_isExc, ↓r_indexM, ↓r_lstL, ↓r_eqF, ↓r_neF, ↓r_eqM, ↓r_neM, ↓r_isiFr, ↓r_eqB, ↓r_neB, beq_self_eq_true, ↓r_cutO, ↓r_cutOL, ↓r_cutOP])
  refine forT_u ?_
  (try simp only [↓r_wm1, ↓r_wm2, ↓r_wm3, ↓r_wm4, ↓r_forT, ↓r_forI, ↓r_fU0, ↓r_fU1, ↓r_turn, ↓r_yes, ↓r_ofrz, ↓r_oown, ↓r_w0, ↓r_w1, ↓r_w2, ↓r_w3, ↓r_w4, ↓r_lcT, ↓r_lcI, ↓r_lcR, ↓r_cU0, ↓r_cU1, ↓r_s0, ↓r_n0, ↓r_s1, ↓r_n1, ↓r_s2, ↓r_n2, ↓r_s3, ↓r_n3, ↓r_s4, ↓r_n4, ↓r_s5, ↓r_n5, ↓r_s6, ↓r_n6, ↓r_s7, ↓r_n7, ↓r_s8, ↓r_n8, ↓r_s9, ↓r_n9, ↓r_s10, ↓r_n10, ↓r_s11, ↓r_n11, ↓r_s12, ↓r_n12, ↓r_s13, ↓r_n13, ↓r_s14, ↓r_n14, ↓r_s15, ↓r_n15, ↓r_s16, ↓r_n16, ↓r_s17, ↓r_n17, ↓r_s18, ↓r_n18, ↓r_s19, ↓r_n19, ↓r_s20, ↓r_n20, ↓r_s21, ↓r_n21, ↓r_s22, ↓r_n22, ↓r_s23, ↓r_n23, ↓r_s24, ↓r_n24, ↓r_s25, ↓r_n25, ↓r_fr0, ↓r_fr1, ↓r_frL, ↓r_frN, ↓r_frNN, ↓r_max3, ↓r_seq, ↓r_next, ↓r_var0, ↓r_varS, ↓r_c, ↓r_op, ↓r_addI, ↓r_addS, ↓r_addT, ↓r_addL, ↓r_sub, ↓r_mul, ↓r_div, ↓r_mod, ↓r_pow, ↓r_lt, ↓r_le, ↓r_gt, ↓r_ge, ↓r_eqI, ↓r_neI, ↓r_isN, ↓r_isT, ↓r_isI, ↓r_isR, ↓r_inN, ↓r_inT, ↓r_inI, ↓r_ixT, ↓r_ixLs, ↓r_ixRo, ↓r_ixP, ↓r_at0, ↓r_at1, ↓r_at2, ↓r_at3, ↓r_neg, ↓r_negC, ↓r_b, ↓r_bl, ↓r_and, ↓r_or, ↓r_not, ↓r_andV, ↓r_orV, ↓r_notV, ↓r_bl', ↓r_if, ↓r_ifS, ↓r_asg, ↓r_name, ↓r_jnil, ↓r_jcons, ↓r_jtup, ↓r_jlst, ↓r_jlstP, ↓r_jsub, ↓r_jcut, ↓r_jcutP, ↓r_jcutA, ↓r_in2, ↓r_stP, ↓r_st0, ↓r_st1, ↓r_st2, ↓r_par, ↓r_ret, ↓r_retN, ↓r_drop, ↓r_brk, ↓r_cont, ↓r_raise, ↓r_nil, ↓r_cons, ↓r_tup, ↓r_lst, ↓r_new, ↓r_frz, ↓r_frzP, ↓r_cb, ↓r_call, ↓r_abs, ↓r_max, ↓r_min, ↓r_intI, ↓r_intB, ↓r_lenT, ↓r_lenL, ↓r_lenR, ↓r_lenP, ↓r_listL, ↓r_listR, ↓r_listOL, ↓r_tupleL, ↓r_tupleP, ↓r_isiII, ↓r_isiIB, ↓r_isiBI, ↓r_isiBB, ↓r_isiTT, ↓r_isiLL, ↓r_app, ↓r_appP, ↓r_clr, ↓r_clrP, ↓r_lstP, ↓r_cut, ↓r_onone, ↓r_osome, ↓r_int', ↓r_cutT, ↓r_cutLs, ↓r_cutP, ↓r_range1, ↓r_rg1, ↓rs0, ↓rsS, ↓ite_dec, ↓ite_ndec, ↓put_put, startD, List.length_cons, List.length_nil, and_assoc, and_true, true_and, and_self, or_self, or_false, false_or, or_true, true_or, decide_eq_true_eq, decide_true, decide_false, Bool.not_true, Bool.not_false, Bool.false_eq_true, if_true, if_false, ↓reduceIte, ne_eq, Nat.reduceLeDiff, Nat.reduceAdd, not_false_eq_true, not_true_eq_false, reduceCtorEq, Option.some.injEq, Int.reduceToNat, Int.reducePow, Int.reduceAdd, Int.reduceMul, Int.reduceSub, Int.reduceNeg, Int.reduceEq, List.nil_append, List.cons_append, ↓r_keep, ↓r_isExc, ↓r_indexM, ↓r_lstL, ↓r_eqF, ↓r_neF, ↓r_eqM, ↓r_neM, ↓r_isiFr, ↓r_eqB, ↓r_neB, beq_self_eq_true, ↓r_cutO, ↓r_cutOL, ↓r_cutOP])
  refine ⟨mulC (m := 1) (by decide) hu.ba.2 (by omega), _, _, rfl, ?_⟩
  (try simp only [↓r_wm1, ↓r_wm2, ↓r_wm3, ↓r_wm4, ↓r_forT, ↓r_forI, ↓r_fU0, ↓r_fU1, ↓r_turn, ↓r_yes, ↓r_ofrz, ↓r_oown, ↓r_w0, ↓r_w1, ↓r_w2, ↓r_w3, ↓r_w4, ↓r_lcT, ↓r_lcI, ↓r_lcR, ↓r_cU0, ↓r_cU1, ↓r_s0, ↓r_n0, ↓r_s1, ↓r_n1, ↓r_s2, ↓r_n2, ↓r_s3, ↓r_n3, ↓r_s4, ↓r_n4, ↓r_s5, ↓r_n5, ↓r_s6, ↓r_n6, ↓r_s7, ↓r_n7, ↓r_s8, ↓r_n8, ↓r_s9, ↓r_n9, ↓r_s10, ↓r_n10, ↓r_s11, ↓r_n11, ↓r_s12, ↓r_n12, ↓r_s13, ↓r_n13, ↓r_s14, ↓r_n14, ↓r_s15, ↓r_n15, ↓r_s16, ↓r_n16, ↓r_s17, ↓r_n17, ↓r_s18, ↓r_n18, ↓r_s19, ↓r_n19, ↓r_s20, ↓r_n20, ↓r_s21, ↓r_n21, ↓r_s22, ↓r_n22, ↓r_s23, ↓r_n23, ↓r_s24, ↓r_n24, ↓r_s25, ↓r_n25, ↓r_fr0, ↓r_fr1, ↓r_frL, ↓r_frN, ↓r_frNN, ↓r_max3, ↓r_seq, ↓r_next, ↓r_var0, ↓r_varS, ↓r_c, ↓r_op, ↓r_addI, ↓r_addS, ↓r_addT, ↓r_addL, ↓r_sub, ↓r_mul, ↓r_div, ↓r_mod, ↓r_pow, ↓r_lt, ↓r_le, ↓r_gt, ↓r_ge, ↓r_eqI, ↓r_neI, ↓r_isN, ↓r_isT, ↓r_isI, ↓r_isR, ↓r_inN, ↓r_inT, ↓r_inI, ↓r_ixT, ↓r_ixLs, ↓r_ixRo, ↓r_ixP, ↓r_at0, ↓r_at1, ↓r_at2, ↓r_at3, ↓r_neg, ↓r_negC, ↓r_b, ↓r_bl, ↓r_and, ↓r_or, ↓r_not, ↓r_andV, ↓r_orV, ↓r_notV, ↓r_bl', ↓r_if, ↓r_ifS, ↓r_asg, ↓r_name, ↓r_jnil, ↓r_jcons, ↓r_jtup, ↓r_jlst, ↓r_jlstP, ↓r_jsub, ↓r_jcut, ↓r_jcutP, ↓r_jcutA, ↓r_in2, ↓r_stP, ↓r_st0, ↓r_st1, ↓r_st2, ↓r_par, ↓r_ret, ↓r_retN, ↓r_drop, ↓r_brk, ↓r_cont, ↓r_raise, ↓r_nil, ↓r_cons, ↓r_tup, ↓r_lst, ↓r_new, ↓r_frz, ↓r_frzP, ↓r_cb, ↓r_call, ↓r_abs, ↓r_max, ↓r_min, ↓r_intI, ↓r_intB, ↓r_lenT, ↓r_lenL, ↓r_lenR, ↓r_lenP, ↓r_listL, ↓r_listR, ↓r_listOL, ↓r_tupleL, ↓r_tupleP, ↓r_isiII, ↓r_isiIB, ↓r_isiBI, ↓r_isiBB, ↓r_isiTT, ↓r_isiLL, ↓r_app, ↓r_appP, ↓r_clr, ↓r_clrP, ↓r_lstP, ↓r_cut, ↓r_onone, ↓r_osome, ↓r_int', ↓r_cutT, ↓r_cutLs, ↓r_cutP, ↓r_range1, ↓r_rg1, ↓rs0, ↓rsS, ↓ite_dec, ↓ite_ndec, ↓put_put, startD, List.length_cons, List.length_nil, and_assoc, and_true, true_and, and_self, or_self, or_false, false_or, or_true, true_or, decide_eq_true_eq, decide_true, decide_false, Bool.not_true, Bool.not_false, Bool.false_eq_true, if_true, if_false, ↓reduceIte, ne_eq, Nat.reduceLeDiff, Nat.reduceAdd, not_false_eq_true, not_true_eq_false, reduceCtorEq, Option.some.injEq, Int.reduceToNat, Int.reducePow, Int.reduceAdd, Int.reduceMul, Int.reduceSub, Int.reduceNeg, Int.reduceEq, List.nil_append, List.cons_append, ↓r_keep, ↓r_isExc, ↓r_indexM, ↓r_lstL, ↓r_eqF, ↓r_neF, ↓r_eqM, ↓r_neM, ↓r_isiFr, ↓r_eqB, ↓r_neB, beq_self_eq_true, ↓r_cutO, ↓r_cutOL, ↓r_cutOP, cA, ul])
  refine ⟨mulC b1 hu.bb.2 (by omega), _, _, rfl, ?_⟩
  (try simp only [↓r_wm1, ↓r_wm2, ↓r_wm3, ↓r_wm4, ↓r_forT, ↓r_forI, ↓r_fU0, ↓r_fU1, ↓r_turn, ↓r_yes, ↓r_ofrz, ↓r_oown, ↓r_w0, ↓r_w1, ↓r_w2, ↓r_w3, ↓r_w4, ↓r_lcT, ↓r_lcI, ↓r_lcR, ↓r_cU0, ↓r_cU1, ↓r_s0, ↓r_n0, ↓r_s1, ↓r_n1, ↓r_s2, ↓r_n2, ↓r_s3, ↓r_n3, ↓r_s4, ↓r_n4, ↓r_s5, ↓r_n5, ↓r_s6, ↓r_n6, ↓r_s7, ↓r_n7, ↓r_s8, ↓r_n8, ↓r_s9, ↓r_n9, ↓r_s10, ↓r_n10, ↓r_s11, ↓r_n11, ↓r_s12, ↓r_n12, ↓r_s13, ↓r_n13, ↓r_s14, ↓r_n14, ↓r_s15, ↓r_n15, ↓r_s16, ↓r_n16, ↓r_s17, ↓r_n17, ↓r_s18, ↓r_n18, ↓r_s19, ↓r_n19, ↓r_s20, ↓r_n20, ↓r_s21, ↓r_n21, ↓r_s22, ↓r_n22, ↓r_s23, ↓r_n23, ↓r_s24, ↓r_n24, ↓r_s25, ↓r_n25, ↓r_fr0, ↓r_fr1, ↓r_frL, ↓r_frN, ↓r_frNN, ↓r_max3, ↓r_seq, ↓r_next, ↓r_var0, ↓r_varS, ↓r_c, ↓r_op, ↓r_addI, ↓r_addS, ↓r_addT, ↓r_addL, ↓r_sub, ↓r_mul, ↓r_div, ↓r_mod, ↓r_pow, ↓r_lt, ↓r_le, ↓r_gt, ↓r_ge, ↓r_eqI, ↓r_neI, ↓r_isN, ↓r_isT, ↓r_isI, ↓r_isR, ↓r_inN, ↓r_inT, ↓r_inI, ↓r_ixT, ↓r_ixLs, ↓r_ixRo, ↓r_ixP, ↓r_at0, ↓r_at1, ↓r_at2, ↓r_at3, ↓r_neg, ↓r_negC, ↓r_b, ↓r_bl, ↓r_and, ↓r_or, ↓r_not, ↓r_andV, ↓r_orV, ↓r_notV, ↓r_bl', ↓r_if, ↓r_ifS, ↓r_asg, ↓r_name, ↓r_jnil, ↓r_jcons, ↓r_jtup, ↓r_jlst, ↓r_jlstP, ↓r_jsub, ↓r_jcut, ↓r_jcutP, ↓r_jcutA, ↓r_in2, ↓r_stP, ↓r_st0, ↓r_st1, ↓r_st2, ↓r_par, ↓r_ret, ↓r_retN, ↓r_drop, ↓r_brk, ↓r_cont, ↓r_raise, ↓r_nil, ↓r_cons, ↓r_tup, ↓r_lst, ↓r_new, ↓r_frz, ↓r_frzP, ↓r_cb, ↓r_call, ↓r_abs, ↓r_max, ↓r_min, ↓r_intI, ↓r_intB, ↓r_lenT, ↓r_lenL, ↓r_lenR, ↓r_lenP, ↓r_listL, ↓r_listR, ↓r_listOL, ↓r_tupleL, ↓r_tupleP, ↓r_isiII, ↓r_isiIB, ↓r_isiBI, ↓r_isiBB, ↓r_isiTT, ↓r_isiLL, ↓r_app, ↓r_appP, ↓r_clr, ↓r_clrP, ↓r_lstP, ↓r_cut, ↓r_onone, ↓r_osome, ↓r_int', ↓r_cutT, ↓r_cutLs, ↓r_cutP, ↓r_range1, ↓r_rg1, ↓rs0, ↓rsS, ↓ite_dec, ↓ite_ndec, ↓put_put, startD, List.length_cons, List.length_nil, and_assoc, and_true, true_and, and_self, or_self, or_false, false_or, or_true, true_or, decide_eq_true_eq, decide_true, decide_false, Bool.not_true, Bool.not_false, Bool.false_eq_true, if_true, if_false, ↓reduceIte, ne_eq, Nat.reduceLeDiff, Nat.reduceAdd, not_false_eq_true, not_true_eq_false, reduceCtorEq, Option.some.injEq, Int.reduceToNat, Int.reducePow, Int.reduceAdd, Int.reduceMul, Int.reduceSub, Int.reduceNeg, Int.reduceEq, List.nil_append, List.cons_append, ↓r_keep, ↓r_isExc, ↓r_indexM, ↓r_lstL, ↓r_eqF, ↓r_neF, ↓r_eqM, ↓r_neM, ↓r_isiFr, ↓r_eqB, ↓r_neB, beq_self_eq_true, ↓r_cutO, ↓r_cutOL, ↓r_cutOP, cB, ul])
  refine ⟨mulC b2 hu.bc.2 (by omega), _, _, rfl, ?_⟩
  (try simp only [↓r_wm1, ↓r_wm2, ↓r_wm3, ↓r_wm4, ↓r_forT, ↓r_forI, ↓r_fU0, ↓r_fU1, ↓r_turn, ↓r_yes, ↓r_ofrz, ↓r_oown, ↓r_w0, ↓r_w1, ↓r_w2, ↓r_w3, ↓r_w4, ↓r_lcT, ↓r_lcI, ↓r_lcR, ↓r_cU0, ↓r_cU1, ↓r_s0, ↓r_n0, ↓r_s1, ↓r_n1, ↓r_s2, ↓r_n2, ↓r_s3, ↓r_n3, ↓r_s4, ↓r_n4, ↓r_s5, ↓r_n5, ↓r_s6, ↓r_n6, ↓r_s7, ↓r_n7, ↓r_s8, ↓r_n8, ↓r_s9, ↓r_n9, ↓r_s10, ↓r_n10, ↓r_s11, ↓r_n11, ↓r_s12, ↓r_n12, ↓r_s13, ↓r_n13, ↓r_s14, ↓r_n14, ↓r_s15, ↓r_n15, ↓r_s16, ↓r_n16, ↓r_s17, ↓r_n17, ↓r_s18, ↓r_n18, ↓r_s19, ↓r_n19, ↓r_s20, ↓r_n20, ↓r_s21, ↓r_n21, ↓r_s22, ↓r_n22, ↓r_s23, ↓r_n23, ↓r_s24, ↓r_n24, ↓r_s25, ↓r_n25, ↓r_fr0, ↓r_fr1, ↓r_frL, ↓r_frN, ↓r_frNN, ↓r_max3, ↓r_seq, ↓r_next, ↓r_var0, ↓r_varS, ↓r_c, ↓r_op, ↓r_addI, ↓r_addS, ↓r_addT, ↓r_addL, ↓r_sub, ↓r_mul, ↓r_div, ↓r_mod, ↓r_pow, ↓r_lt, ↓r_le, ↓r_gt, ↓r_ge, ↓r_eqI, ↓r_neI, ↓r_isN, ↓r_isT, ↓r_isI, ↓r_isR, ↓r_inN, ↓r_inT, ↓r_inI, ↓r_ixT, ↓r_ixLs, ↓r_ixRo, ↓r_ixP, ↓r_at0, ↓r_at1, ↓r_at2, ↓r_at3, ↓r_neg, ↓r_negC, ↓r_b, ↓r_bl, ↓r_and, ↓r_or, ↓r_not, ↓r_andV, ↓r_orV, ↓r_notV, ↓r_bl', ↓r_if, ↓r_ifS, ↓r_asg, ↓r_name, ↓r_jnil, ↓r_jcons, ↓r_jtup, ↓r_jlst, ↓r_jlstP, ↓r_jsub, ↓r_jcut, ↓r_jcutP, ↓r_jcutA, ↓r_in2, ↓r_stP, ↓r_st0, ↓r_st1, ↓r_st2, ↓r_par, ↓r_ret, ↓r_retN, ↓r_drop, ↓r_brk, ↓r_cont, ↓r_raise, ↓r_nil, ↓r_cons, ↓r_tup, ↓r_lst, ↓r_new, ↓r_frz, ↓r_frzP, ↓r_cb, ↓r_call, ↓r_abs, ↓r_max, ↓r_min, ↓r_intI, ↓r_intB, ↓r_lenT, ↓r_lenL, ↓r_lenR, ↓r_lenP, ↓r_listL, ↓r_listR, ↓r_listOL, ↓r_tupleL, ↓r_tupleP, ↓r_isiII, ↓r_isiIB, ↓r_isiBI, ↓r_isiBB, ↓r_isiTT, ↓r_isiLL, ↓r_app, ↓r_appP, ↓r_clr, ↓r_clrP, ↓r_lstP, ↓r_cut, ↓r_onone, ↓r_osome, ↓r_int', ↓r_cutT, ↓r_cutLs, ↓r_cutP, ↓r_range1, ↓r_rg1, ↓rs0, ↓rsS, ↓ite_dec, ↓ite_ndec, ↓put_put, startD, List.length_cons, List.length_nil, and_assoc, and_true, true_and, and_self, or_self, or_false, false_or, or_true, true_or, decide_eq_true_eq, decide_true, decide_false, Bool.not_true, Bool.not_false, Bool.false_eq_true, if_true, if_false, ↓reduceIte, ne_eq, Nat.reduceLeDiff, Nat.reduceAdd, not_false_eq_true, not_true_eq_false, reduceCtorEq, Option.some.injEq, Int.reduceToNat, Int.reducePow, Int.reduceAdd, Int.reduceMul, Int.reduceSub, Int.reduceNeg, Int.reduceEq, List.nil_append, List.cons_append, ↓r_keep, ↓r_isExc, ↓r_indexM, ↓r_lstL, ↓r_eqF, ↓r_neF, ↓r_eqM, ↓r_neM, ↓r_isiFr, ↓r_eqB, ↓r_neB, beq_self_eq_true, ↓r_cutO, ↓r_cutOL, ↓r_cutOP, cC, ul, hE])
  refine lcT_u (by simp) ?_
  (try simp only [↓r_wm1, ↓r_wm2, ↓r_wm3, ↓r_wm4, ↓r_forT, ↓r_forI, ↓r_fU0, ↓r_fU1, ↓r_turn, ↓r_yes, ↓r_ofrz, ↓r_oown, ↓r_w0, ↓r_w1, ↓r_w2, ↓r_w3, ↓r_w4, ↓r_lcT, ↓r_lcI, ↓r_lcR, ↓r_cU0, ↓r_cU1, ↓r_s0, ↓r_n0, ↓r_s1, ↓r_n1, ↓r_s2, ↓r_n2, ↓r_s3, ↓r_n3, ↓r_s4, ↓r_n4, ↓r_s5, ↓r_n5, ↓r_s6, ↓r_n6, ↓r_s7, ↓r_n7, ↓r_s8, ↓r_n8, ↓r_s9, ↓r_n9, ↓r_s10, ↓r_n10, ↓r_s11, ↓r_n11, ↓r_s12, ↓r_n12, ↓r_s13, ↓r_n13, ↓r_s14, ↓r_n14, ↓r_s15, ↓r_n15, ↓r_s16, ↓r_n16, ↓r_s17, ↓r_n17, ↓r_s18, ↓r_n18, ↓r_s19, ↓r_n19, ↓r_s20, ↓r_n20, ↓r_s21, ↓r_n21, ↓r_s22, ↓r_n22, ↓r_s23, ↓r_n23, ↓r_s24, ↓r_n24, ↓r_s25, ↓r_n25, ↓r_fr0, ↓r_fr1, ↓r_frL, ↓r_frN, ↓r_frNN, ↓r_max3, ↓r_seq, ↓r_next, ↓r_var0, ↓r_varS, ↓r_c, ↓r_op, ↓r_addI, ↓r_addS, ↓r_addT, ↓r_addL, ↓r_sub, ↓r_mul, ↓r_div, ↓r_mod, ↓r_pow, ↓r_lt, ↓r_le, ↓r_gt, ↓r_ge, ↓r_eqI, ↓r_neI, ↓r_isN, ↓r_isT, ↓r_isI, ↓r_isR, ↓r_inN, ↓r_inT, ↓r_inI, ↓r_ixT, ↓r_ixLs, ↓r_ixRo, ↓r_ixP, ↓r_at0, ↓r_at1, ↓r_at2, ↓r_at3, ↓r_neg, ↓r_negC, ↓r_b, ↓r_bl, ↓r_and, ↓r_or, ↓r_not, ↓r_andV, ↓r_orV, ↓r_notV, ↓r_bl', ↓r_if, ↓r_ifS, ↓r_asg, ↓r_name, ↓r_jnil, ↓r_jcons, ↓r_jtup, ↓r_jlst, ↓r_jlstP, ↓r_jsub, ↓r_jcut, ↓r_jcutP, ↓r_jcutA, ↓r_in2, ↓r_stP, ↓r_st0, ↓r_st1, ↓r_st2, ↓r_par, ↓r_ret, ↓r_retN, ↓r_drop, ↓r_brk, ↓r_cont, ↓r_raise, ↓r_nil, ↓r_cons, ↓r_tup, ↓r_lst, ↓r_new, ↓r_frz, ↓r_frzP, ↓r_cb, ↓r_call, ↓r_abs, ↓r_max, ↓r_min, ↓r_intI, ↓r_intB, ↓r_lenT, ↓r_lenL, ↓r_lenR, ↓r_lenP, ↓r_listL, ↓r_listR, ↓r_listOL, ↓r_tupleL, ↓r_tupleP, ↓r_isiII, ↓r_isiIB, ↓r_isiBI, ↓r_isiBB, ↓r_isiTT, ↓r_isiLL, ↓r_app, ↓r_appP, ↓r_clr, ↓r_clrP, ↓r_lstP, ↓r_cut, ↓r_onone, ↓r_osome, ↓r_int', ↓r_cutT, ↓r_cutLs, ↓r_cutP, ↓r_range1, ↓r_rg1, ↓rs0, ↓rsS, ↓ite_dec, ↓ite_ndec, ↓put_put, startD, List.length_cons, List.length_nil, and_assoc, and_true, true_and, and_self, or_self, or_false, false_or, or_true, true_or, decide_eq_true_eq, decide_true, decide_false, Bool.not_true, Bool.not_false, Bool.false_eq_true, if_true, if_false, ↓reduceIte, ne_eq, Nat.reduceLeDiff, Nat.reduceAdd, not_false_eq_true, not_true_eq_false, reduceCtorEq, Option.some.injEq, Int.reduceToNat, Int.reducePow, Int.reduceAdd, Int.reduceMul, Int.reduceSub, Int.reduceNeg, Int.reduceEq, List.nil_append, List.cons_append, ↓r_keep, ↓r_isExc, ↓r_indexM, ↓r_lstL, ↓r_eqF, ↓r_neF, ↓r_eqM, ↓r_neM, ↓r_isiFr, ↓r_eqB, ↓r_neB, beq_self_eq_true, ↓r_cutO, ↓r_cutOL, ↓r_cutOP, vA, vB, vC, mA, mB, mC])
  refine ⟨_, _, rfl, ?_⟩
  (try simp only [↓r_wm1, ↓r_wm2, ↓r_wm3, ↓r_wm4, ↓r_forT, ↓r_forI, ↓r_fU0, ↓r_fU1, ↓r_turn, ↓r_yes, ↓r_ofrz, ↓r_oown, ↓r_w0, ↓r_w1, ↓r_w2, ↓r_w3, ↓r_w4, ↓r_lcT, ↓r_lcI, ↓r_lcR, ↓r_cU0, ↓r_cU1, ↓r_s0, ↓r_n0, ↓r_s1, ↓r_n1, ↓r_s2, ↓r_n2, ↓r_s3, ↓r_n3, ↓r_s4, ↓r_n4, ↓r_s5, ↓r_n5, ↓r_s6, ↓r_n6, ↓r_s7, ↓r_n7, ↓r_s8, ↓r_n8, ↓r_s9, ↓r_n9, ↓r_s10, ↓r_n10, ↓r_s11, ↓r_n11, ↓r_s12, ↓r_n12, ↓r_s13, ↓r_n13, ↓r_s14, ↓r_n14, ↓r_s15, ↓r_n15, ↓r_s16, ↓r_n16, ↓r_s17, ↓r_n17, ↓r_s18, ↓r_n18, ↓r_s19, ↓r_n19, ↓r_s20, ↓r_n20, ↓r_s21, ↓r_n21, ↓r_s22, ↓r_n22, ↓r_s23, ↓r_n23, ↓r_s24, ↓r_n24, ↓r_s25, ↓r_n25, ↓r_fr0, ↓r_fr1, ↓r_frL, ↓r_frN, ↓r_frNN, ↓r_max3, ↓r_seq, ↓r_next, ↓r_var0, ↓r_varS, ↓r_c, ↓r_op, ↓r_addI, ↓r_addS, ↓r_addT, ↓r_addL, ↓r_sub, ↓r_mul, ↓r_div, ↓r_mod, ↓r_pow, ↓r_lt, ↓r_le, ↓r_gt, ↓r_ge, ↓r_eqI, ↓r_neI, ↓r_isN, ↓r_isT, ↓r_isI, ↓r_isR, ↓r_inN, ↓r_inT, ↓r_inI, ↓r_ixT, ↓r_ixLs, ↓r_ixRo, ↓r_ixP, ↓r_at0, ↓r_at1, ↓r_at2, ↓r_at3, ↓r_neg, ↓r_negC, ↓r_b, ↓r_bl, ↓r_and, ↓r_or, ↓r_not, ↓r_andV, ↓r_orV, ↓r_notV, ↓r_bl', ↓r_if, ↓r_ifS, ↓r_asg, ↓r_name, ↓r_jnil, ↓r_jcons, ↓r_jtup, ↓r_jlst, ↓r_jlstP, ↓r_jsub, ↓r_jcut, ↓r_jcutP, ↓r_jcutA, ↓r_in2, ↓r_stP, ↓r_st0, ↓r_st1, ↓r_st2, ↓r_par, ↓r_ret, ↓r_retN, ↓r_drop, ↓r_brk, ↓r_cont, ↓r_raise, ↓r_nil, ↓r_cons, ↓r_tup, ↓r_lst, ↓r_new, ↓r_frz, ↓r_frzP, ↓r_cb, ↓r_call, ↓r_abs, ↓r_max, ↓r_min, ↓r_intI, ↓r_intB, ↓r_lenT, ↓r_lenL, ↓r_lenR, ↓r_lenP, ↓r_listL, ↓r_listR, ↓r_listOL, ↓r_tupleL, ↓r_tupleP, ↓r_isiII, ↓r_isiIB, ↓r_isiBI, ↓r_isiBB, ↓r_isiTT, ↓r_isiLL, ↓r_app, ↓r_appP, ↓r_clr, ↓r_clrP, ↓r_lstP, ↓r_cut, ↓r_onone, ↓r_osome, ↓r_int', ↓r_cutT, ↓r_cutLs, ↓r_cutP, ↓r_range1, ↓r_rg1, ↓rs0, ↓rsS, ↓ite_dec, ↓ite_ndec, ↓put_put, startD, List.length_cons, List.length_nil, and_assoc, and_true, true_and, and_self, or_self, or_false, false_or, or_true, true_or, decide_eq_true_eq, decide_true, decide_false, Bool.not_true, Bool.not_false, Bool.false_eq_true, if_true, if_false, ↓reduceIte, ne_eq, Nat.reduceLeDiff, Nat.reduceAdd, not_false_eq_true, not_true_eq_false, reduceCtorEq, Option.some.injEq, Int.reduceToNat, Int.reducePow, Int.reduceAdd, Int.reduceMul, Int.reduceSub, Int.reduceNeg, Int.reduceEq, List.nil_append, List.cons_append, ↓r_keep, ↓r_isExc, ↓r_indexM, ↓r_lstL, ↓r_eqF, ↓r_neF, ↓r_eqM, ↓r_neM, ↓r_isiFr, ↓r_eqB, ↓r_neB, beq_self_eq_true, ↓r_cutO, ↓r_cutOL, ↓r_cutOP])
  refine ⟨_, _, rfl, ?_⟩
  have eg : ((Int.gcd ((Int.gcd (u.a.1 * e.fdiv u.a.2) (u.b.1 * e.fdiv u.b.2) : Nat) : Int) (u.c.1 * e.fdiv u.c.2) : Nat) : Int) = g3 (u.a.1 * e.fdiv u.a.2) (u.b.1 * e.fdiv u.b.2) (u.c.1 * e.fdiv u.c.2) := rfl
  rw [eg]
  rw [← fn] at h
  unfold nrm T3.d at h
  generalize u.a.1 * e.fdiv u.a.2 = x at *
  generalize u.b.1 * e.fdiv u.b.2 = y at *
  generalize u.c.1 * e.fdiv u.c.2 = z at *
  have dd : ∀ v : Int, DivC v (dv3 x y z) := fun v => by
    have := dv3_ne nz
    refine ⟨this, ?_⟩
    have : Bd 8500 (dv3 x y z) := gb.le (by unfold dv3; split <;> omega)
    exact this.mono (by decide)
  (try simp only [↓r_wm1, ↓r_wm2, ↓r_wm3, ↓r_wm4, ↓r_forT, ↓r_forI, ↓r_fU0, ↓r_fU1, ↓r_turn, ↓r_yes, ↓r_ofrz, ↓r_oown, ↓r_w0, ↓r_w1, ↓r_w2, ↓r_w3, ↓r_w4, ↓r_lcT, ↓r_lcI, ↓r_lcR, ↓r_cU0, ↓r_cU1, ↓r_s0, ↓r_n0, ↓r_s1, ↓r_n1, ↓r_s2, ↓r_n2, ↓r_s3, ↓r_n3, ↓r_s4, ↓r_n4, ↓r_s5, ↓r_n5, ↓r_s6, ↓r_n6, ↓r_s7, ↓r_n7, ↓r_s8, ↓r_n8, ↓r_s9, ↓r_n9, ↓r_s10, ↓r_n10, ↓r_s11, ↓r_n11, ↓r_s12, ↓r_n12, ↓r_s13, ↓r_n13, ↓r_s14, ↓r_n14, ↓r_s15, ↓r_n15, ↓r_s16, ↓r_n16, ↓r_s17, ↓r_n17, ↓r_s18, ↓r_n18, ↓r_s19, ↓r_n19, ↓r_s20, ↓r_n20, ↓r_s21, ↓r_n21, ↓r_s22, ↓r_n22, ↓r_s23, ↓r_n23, ↓r_s24, ↓r_n24, ↓r_s25, ↓r_n25, ↓r_fr0, ↓r_fr1, ↓r_frL, ↓r_frN, ↓r_frNN, ↓r_max3, ↓r_seq, ↓r_next, ↓r_var0, ↓r_varS, ↓r_c, ↓r_op, ↓r_addI, ↓r_addS, ↓r_addT, ↓r_addL, ↓r_sub, ↓r_mul, ↓r_div, ↓r_mod, ↓r_pow, ↓r_lt, ↓r_le, ↓r_gt, ↓r_ge, ↓r_eqI, ↓r_neI, ↓r_isN, ↓r_isT, ↓r_isI, ↓r_isR, ↓r_inN, ↓r_inT, ↓r_inI, ↓r_ixT, ↓r_ixLs, ↓r_ixRo, ↓r_ixP, ↓r_at0, ↓r_at1, ↓r_at2, ↓r_at3, ↓r_neg, ↓r_negC, ↓r_b, ↓r_bl, ↓r_and, ↓r_or, ↓r_not, ↓r_andV, ↓r_orV, ↓r_notV, ↓r_bl', ↓r_if, ↓r_ifS, ↓r_asg, ↓r_name, ↓r_jnil, ↓r_jcons, ↓r_jtup, ↓r_jlst, ↓r_jlstP, ↓r_jsub, ↓r_jcut, ↓r_jcutP, ↓r_jcutA, ↓r_in2, ↓r_stP, ↓r_st0, ↓r_st1, ↓r_st2, ↓r_par, ↓r_ret, ↓r_retN, ↓r_drop, ↓r_brk, ↓r_cont, ↓r_raise, ↓r_nil, ↓r_cons, ↓r_tup, ↓r_lst, ↓r_new, ↓r_frz, ↓r_frzP, ↓r_cb, ↓r_call, ↓r_abs, ↓r_max, ↓r_min, ↓r_intI, ↓r_intB, ↓r_lenT, ↓r_lenL, ↓r_lenR, ↓r_lenP, ↓r_listL, ↓r_listR, ↓r_listOL, ↓r_tupleL, ↓r_tupleP, ↓r_isiII, ↓r_isiIB, ↓r_isiBI, ↓r_isiBB, ↓r_isiTT, ↓r_isiLL, ↓r_app, ↓r_appP, ↓r_clr, ↓r_clrP, ↓r_lstP, ↓r_cut, ↓r_onone, ↓r_osome, ↓r_int', ↓r_cutT, ↓r_cutLs, ↓r_cutP, ↓r_range1, ↓r_rg1, ↓rs0, ↓rsS, ↓ite_dec, ↓ite_ndec, ↓put_put, startD, List.length_cons, List.length_nil, and_assoc, and_true, true_and, and_self, or_self, or_false, false_or, or_true, true_or, decide_eq_true_eq, decide_true, decide_false, Bool.not_true, Bool.not_false, Bool.false_eq_true, if_true, if_false, ↓reduceIte, ne_eq, Nat.reduceLeDiff, Nat.reduceAdd, not_false_eq_true, not_true_eq_false, reduceCtorEq, Option.some.injEq, Int.reduceToNat, Int.reducePow, Int.reduceAdd, Int.reduceMul, Int.reduceSub, Int.reduceNeg, Int.reduceEq, List.nil_append, List.cons_append, ↓r_keep, ↓r_isExc, ↓r_indexM, ↓r_lstL, ↓r_eqF, ↓r_neF, ↓r_eqM, ↓r_neM, ↓r_isiFr, ↓r_eqB, ↓r_neB, beq_self_eq_true, ↓r_cutO, ↓r_cutOL, ↓r_cutOP])
  refine lcI_u (fun _ => rfl) (by simp) ?_
  (try simp only [↓r_wm1, ↓r_wm2, ↓r_wm3, ↓r_wm4, ↓r_forT, ↓r_forI, ↓r_fU0, ↓r_fU1, ↓r_turn, ↓r_yes, ↓r_ofrz, ↓r_oown, ↓r_w0, ↓r_w1, ↓r_w2, ↓r_w3, ↓r_w4, ↓r_lcT, ↓r_lcI, ↓r_lcR, ↓r_cU0, ↓r_cU1, ↓r_s0, ↓r_n0, ↓r_s1, ↓r_n1, ↓r_s2, ↓r_n2, ↓r_s3, ↓r_n3, ↓r_s4, ↓r_n4, ↓r_s5, ↓r_n5, ↓r_s6, ↓r_n6, ↓r_s7, ↓r_n7, ↓r_s8, ↓r_n8, ↓r_s9, ↓r_n9, ↓r_s10, ↓r_n10, ↓r_s11, ↓r_n11, ↓r_s12, ↓r_n12, ↓r_s13, ↓r_n13, ↓r_s14, ↓r_n14, ↓r_s15, ↓r_n15, ↓r_s16, ↓r_n16, ↓r_s17, ↓r_n17, ↓r_s18, ↓r_n18, ↓r_s19, ↓r_n19, ↓r_s20, ↓r_n20, ↓r_s21, ↓r_n21, ↓r_s22, ↓r_n22, ↓r_s23, ↓r_n23, ↓r_s24, ↓r_n24, ↓r_s25, ↓r_n25, ↓r_fr0, ↓r_fr1, ↓r_frL, ↓r_frN, ↓r_frNN, ↓r_max3, ↓r_seq, ↓r_next, ↓r_var0, ↓r_varS, ↓r_c, ↓r_op, ↓r_addI, ↓r_addS, ↓r_addT, ↓r_addL, ↓r_sub, ↓r_mul, ↓r_div, ↓r_mod, ↓r_pow, ↓r_lt, ↓r_le, ↓r_gt, ↓r_ge, ↓r_eqI, ↓r_neI, ↓r_isN, ↓r_isT, ↓r_isI, ↓r_isR, ↓r_inN, ↓r_inT, ↓r_inI, ↓r_ixT, ↓r_ixLs, ↓r_ixRo, ↓r_ixP, ↓r_at0, ↓r_at1, ↓r_at2, ↓r_at3, ↓r_neg, ↓r_negC, ↓r_b, ↓r_bl, ↓r_and, ↓r_or, ↓r_not, ↓r_andV, ↓r_orV, ↓r_notV, ↓r_bl', ↓r_if, ↓r_ifS, ↓r_asg, ↓r_name, ↓r_jnil, ↓r_jcons, ↓r_jtup, ↓r_jlst, ↓r_jlstP, ↓r_jsub, ↓r_jcut, ↓r_jcutP, ↓r_jcutA, ↓r_in2, ↓r_stP, ↓r_st0, ↓r_st1, ↓r_st2, ↓r_par, ↓r_ret, ↓r_retN, ↓r_drop, ↓r_brk, ↓r_cont, ↓r_raise, ↓r_nil, ↓r_cons, ↓r_tup, ↓r_lst, ↓r_new, ↓r_frz, ↓r_frzP, ↓r_cb, ↓r_call, ↓r_abs, ↓r_max, ↓r_min, ↓r_intI, ↓r_intB, ↓r_lenT, ↓r_lenL, ↓r_lenR, ↓r_lenP, ↓r_listL, ↓r_listR, ↓r_listOL, ↓r_tupleL, ↓r_tupleP, ↓r_isiII, ↓r_isiIB, ↓r_isiBI, ↓r_isiBB, ↓r_isiTT, ↓r_isiLL, ↓r_app, ↓r_appP, ↓r_clr, ↓r_clrP, ↓r_lstP, ↓r_cut, ↓r_onone, ↓r_osome, ↓r_int', ↓r_cutT, ↓r_cutLs, ↓r_cutP, ↓r_range1, ↓r_rg1, ↓rs0, ↓rsS, ↓ite_dec, ↓ite_ndec, ↓put_put, startD, List.length_cons, List.length_nil, and_assoc, and_true, true_and, and_self, or_self, or_false, false_or, or_true, true_or, decide_eq_true_eq, decide_true, decide_false, Bool.not_true, Bool.not_false, Bool.false_eq_true, if_true, if_false, ↓reduceIte, ne_eq, Nat.reduceLeDiff, Nat.reduceAdd, not_false_eq_true, not_true_eq_false, reduceCtorEq, Option.some.injEq, Int.reduceToNat, Int.reducePow, Int.reduceAdd, Int.reduceMul, Int.reduceSub, Int.reduceNeg, Int.reduceEq, List.nil_append, List.cons_append, ↓r_keep, ↓r_isExc, ↓r_indexM, ↓r_lstL, ↓r_eqF, ↓r_neF, ↓r_eqM, ↓r_neM, ↓r_isiFr, ↓r_eqB, ↓r_neB, beq_self_eq_true, ↓r_cutO, ↓r_cutOL, ↓r_cutOP])
  have fin : ∀ (o1 o2 : Option D) (s : Int), s = dv3 x y z → lcIB (D.lst [.int x, .int y, .int z]) (List.map (fun x => x.snd) [(Str.ofString "number", 5)]) (jName 5) tYesD (dOp qDiv (dVar 5) (dVar 4)) oFrz
      [some (D.tup [fr u.a, fr u.b, fr u.c]), o1, o2, some (D.lst [.int x, .int y, .int z]), some (.int s), none] μ fun x μ1 => qTuple [x] μ1 P := by
    rintro o1 o2 s rfl
    refine lcI_u (fun _ => rfl) (by simp) ?_
    (try simp only [↓r_wm1, ↓r_wm2, ↓r_wm3, ↓r_wm4, ↓r_forT, ↓r_forI, ↓r_fU0, ↓r_fU1, ↓r_turn, ↓r_yes, ↓r_ofrz, ↓r_oown, ↓r_w0, ↓r_w1, ↓r_w2, ↓r_w3, ↓r_w4, ↓r_lcT, ↓r_lcI, ↓r_lcR, ↓r_cU0, ↓r_cU1, ↓r_s0, ↓r_n0, ↓r_s1, ↓r_n1, ↓r_s2, ↓r_n2, ↓r_s3, ↓r_n3, ↓r_s4, ↓r_n4, ↓r_s5, ↓r_n5, ↓r_s6, ↓r_n6, ↓r_s7, ↓r_n7, ↓r_s8, ↓r_n8, ↓r_s9, ↓r_n9, ↓r_s10, ↓r_n10, ↓r_s11, ↓r_n11, ↓r_s12, ↓r_n12, ↓r_s13, ↓r_n13, ↓r_s14, ↓r_n14, ↓r_s15, ↓r_n15, ↓r_s16, ↓r_n16, ↓r_s17, ↓r_n17, ↓r_s18, ↓r_n18, ↓r_s19, ↓r_n19, ↓r_s20, ↓r_n20, ↓r_s21, ↓r_n21, ↓r_s22, ↓r_n22, ↓r_s23, ↓r_n23, ↓r_s24, ↓r_n24, ↓r_s25, ↓r_n25, ↓r_fr0, ↓r_fr1, ↓r_frL, ↓r_frN, ↓r_frNN, ↓r_max3, ↓r_seq, ↓r_next, ↓r_var0, ↓r_varS, ↓r_c, ↓r_op, ↓r_addI, ↓r_addS, ↓r_addT, ↓r_addL, ↓r_sub, ↓r_mul, ↓r_div, ↓r_mod, ↓r_pow, ↓r_lt, ↓r_le, ↓r_gt, ↓r_ge, ↓r_eqI, ↓r_neI, ↓r_isN, ↓r_isT, ↓r_isI, ↓r_isR, ↓r_inN, ↓r_inT, ↓r_inI, ↓r_ixT, ↓r_ixLs, ↓r_ixRo, ↓r_ixP, ↓r_at0, ↓r_at1, ↓r_at2, ↓r_at3, ↓r_neg, ↓r_negC, ↓r_b, ↓r_bl, ↓r_and, ↓r_or, ↓r_not, ↓r_andV, ↓r_orV, ↓r_notV, ↓r_bl', ↓r_if, ↓r_ifS, ↓r_asg, ↓r_name, ↓r_jnil, ↓r_jcons, ↓r_jtup, ↓r_jlst, ↓r_jlstP, ↓r_jsub, ↓r_jcut, ↓r_jcutP, ↓r_jcutA, ↓r_in2, ↓r_stP, ↓r_st0, ↓r_st1, ↓r_st2, ↓r_par, ↓r_ret, ↓r_retN, ↓r_drop, ↓r_brk, ↓r_cont, ↓r_raise, ↓r_nil, ↓r_cons, ↓r_tup, ↓r_lst, ↓r_new, ↓r_frz, ↓r_frzP, ↓r_cb, ↓r_call, ↓r_abs, ↓r_max, ↓r_min, ↓r_intI, ↓r_intB, ↓r_lenT, ↓r_lenL, ↓r_lenR, ↓r_lenP, ↓r_listL, ↓r_listR, ↓r_listOL, ↓r_tupleL, ↓r_tupleP, ↓r_isiII, ↓r_isiIB, ↓r_isiBI, ↓r_isiBB, ↓r_isiTT, ↓r_isiLL, ↓r_app, ↓r_appP, ↓r_clr, ↓r_clrP, ↓r_lstP, ↓r_cut, ↓r_onone, ↓r_osome, ↓r_int', ↓r_cutT, ↓r_cutLs, ↓r_cutP, ↓r_range1, ↓r_rg1, ↓rs0, ↓rsS, ↓ite_dec, ↓ite_ndec, ↓put_put, startD, List.length_cons, List.length_nil, and_assoc, and_true, true_and, and_self, or_self, or_false, false_or, or_true, true_or, decide_eq_true_eq, decide_true, decide_false, Bool.not_true, Bool.not_false, Bool.false_eq_true, if_true, if_false, ↓reduceIte, ne_eq, Nat.reduceLeDiff, Nat.reduceAdd, not_false_eq_true, not_true_eq_false, reduceCtorEq, Option.some.injEq, Int.reduceToNat, Int.reducePow, Int.reduceAdd, Int.reduceMul, Int.reduceSub, Int.reduceNeg, Int.reduceEq, List.nil_append, List.cons_append, ↓r_keep, ↓r_isExc, ↓r_indexM, ↓r_lstL, ↓r_eqF, ↓r_neF, ↓r_eqM, ↓r_neM, ↓r_isiFr, ↓r_eqB, ↓r_neB, beq_self_eq_true, ↓r_cutO, ↓r_cutOL, ↓r_cutOP, dd])
    exact h
  have key : ∀ (v : Int) (o1 o2 : Option D), hd3 x y z = v → if v < 0 then lcIB (D.lst [.int x, .int y, .int z]) (List.map (fun x => x.snd) [(Str.ofString "number", 5)]) (jName 5) tYesD (dOp qDiv (dVar 5) (dVar 4)) oFrz
      [some (D.tup [fr u.a, fr u.b, fr u.c]), o1, o2, some (D.lst [.int x, .int y, .int z]), some (.int (0 - g3 x y z)), none] μ (fun x μ1 => qTuple [x] μ1 P) else lcIB (D.lst [.int x, .int y, .int z]) (List.map (fun x => x.snd) [(Str.ofString "number", 5)]) (jName 5) tYesD (dOp qDiv (dVar 5) (dVar 4)) oFrz
      [some (D.tup [fr u.a, fr u.b, fr u.c]), o1, o2, some (D.lst [.int x, .int y, .int z]), some (.int (g3 x y z)), none] μ (fun x μ1 => qTuple [x] μ1 P) := by
    intro v o1 o2 hv
    split
    · rename_i hl
      exact fin o1 o2 _ (by unfold dv3; rw [hv, if_pos hl])
    · rename_i hl
      exact fin o1 o2 _ (by unfold dv3; rw [hv, if_neg hl])
  split
  · rename_i hx
    have e0 : hd3 x y z = x := by unfold hd3; rw [if_pos hx]
    split
    · split
      · exact key _ _ _ e0
      · exact key _ _ _ e0
    · split
      · exact key _ _ _ e0
      · exact key _ _ _ e0
  · rename_i hx
    split
    · rename_i hy
      have e0 : hd3 x y z = y := by unfold hd3; rw [if_neg hx, if_pos hy]
      split
      · exact key _ _ _ e0
      · exact key _ _ _ e0
    · rename_i hy
      have e0 : hd3 x y z = z := by unfold hd3; rw [if_neg hx, if_neg hy]
      split
      · exact key _ _ _ e0
      · rename_i hzz
        exact absurd ⟨Decidable.of_not_not hx, Decidable.of_not_not hy, Decidable.of_not_not hzz⟩ nz
def pr__law_purse : DSp := fun ds μ P _ => ∃ c k, ds = [.int c, .int k] ∧ 0 ≤ k ∧ k ≤ 1000 ∧ ∀ p ds', μ p = none → Purse (put μ p (.lst ds')) p 0 → P (.ref p) (put μ p (.lst ds'))
theorem len__law_purse : ∀ ds μ P PX, pr__law_purse ds μ P PX → ds.length = (["_law_cell", "_law_k"] : List Str).length := by
  rintro ds μ P PX ⟨p, many, rfl, _⟩
  rfl
theorem ok__law_purse {P : Program} {w : World} {K : PySem.W.Frag} {mg : Str → Option Value} {base : Heap} {f : Addr} {fd : FuncData} (F : Fun K "_law_purse" "_law_purse" s__law_purse f fd)
    (d__law_mixed : Df P w K mg base "_law_mixed" ["_law_cell", "_law_k"] 1 pr__law_mixed) : FnOk P w K mg base (L2.CX P w) 2 f fd ["_law_cell", "_law_k"] (spD K pr__law_purse) := by
  have nd := sc__law_purse.nd
  refine fn_D (k := 1) F sc__law_purse len__law_purse (by decide) (fun cdv A outer s H E PX hr tk hp => ⟨_, (sd_cons (sd_if (pt_ge (vr 0) (pd_pow pd_int pd_int))
       (sd_one (sd_ret (pd_new (da_cons (pd_mod (pd_sub (vr 0) (pd_pow pd_int pd_int)) (pd_pow (pd_pow pd_int pd_int) pd_int)) (da_cons pd_int (da_cons (vr 1) da_nil))))))
       sd_nil)
      (sd_one (sd_ret (pd_new (da_cons (pd_call d__law_mixed tk hr (by rfl) (da_cons (vr 0) (da_cons (vr 1) da_nil))) (da_cons pd_int (da_cons (pd_add (pd_mod (vr 0) (pd_add (pd_pow pd_int pd_int) pd_int)) (vr 1)) da_nil)))))))⟩) ?_
  rintro ds μ P PX ⟨c, k, rfl, h0, h1, h⟩
  have c1 : PowC 10 18 := powC 4
  have c2 : PowC 10 60 := powC 4
  have c3 : PowC 1000000000000000000000000000000000000000000000000000000000000 10 := powC 200
  have hk : Bd 20 k := Bd.rng (m := 1001) h0 (by omega) (by decide)
  (try simp only [↓r_wm1, ↓r_wm2, ↓r_wm3, ↓r_wm4, ↓r_forT, ↓r_forI, ↓r_fU0, ↓r_fU1, ↓r_turn, ↓r_yes, ↓r_ofrz, ↓r_oown, ↓r_w0, ↓r_w1, ↓r_w2, ↓r_w3, ↓r_w4, ↓r_lcT, ↓r_lcI, ↓r_lcR, ↓r_cU0, ↓r_cU1, ↓r_s0, ↓r_n0, ↓r_s1, ↓r_n1, ↓r_s2, ↓r_n2, ↓r_s3, ↓r_n3, ↓r_s4, ↓r_n4, ↓r_s5, ↓r_n5, ↓r_s6, ↓r_n6, ↓r_s7, ↓r_n7, ↓r_s8, ↓r_n8, ↓r_s9, ↓r_n9, ↓r_s10, ↓r_n10, ↓r_s11, ↓r_n11, ↓r_s12, ↓r_n12, ↓r_s13, ↓r_n13, ↓r_s14, ↓r_n14, ↓r_s15, ↓r_n15, ↓r_s16, ↓r_n16, ↓r_s17, ↓r_n17, ↓r_s18, ↓r_n18, ↓r_s19, ↓r_n19, ↓r_s20, ↓r_n20, ↓r_s21, ↓r_n21, ↓r_s22, ↓r_n22, ↓r_s23, ↓r_n23, ↓r_s24, ↓r_n24, ↓r_s25, ↓r_n25, ↓r_fr0, ↓r_fr1, ↓r_frL, ↓r_frN, ↓r_frNN, ↓r_max3, ↓r_seq, ↓r_next, ↓r_var0, ↓r_varS, ↓r_c, ↓r_op, ↓r_addI, ↓r_addS, ↓r_addT, ↓r_addL, ↓r_sub, ↓r_mul, ↓r_div, ↓r_mod, ↓r_pow, ↓r_lt, ↓r_le, ↓r_gt, ↓r_ge, ↓r_eqI, ↓r_neI, ↓r_isN, ↓r_isT, ↓r_isI, ↓r_isR, ↓r_inN, ↓r_inT, ↓r_inI, ↓r_ixT, ↓r_ixLs, ↓r_ixRo, ↓r_ixP, ↓r_at0, ↓r_at1, ↓r_at2, ↓r_at3, ↓r_neg, ↓r_negC, ↓r_b, ↓r_bl, ↓r_and, ↓r_or, ↓r_not, ↓r_andV, ↓r_orV, ↓r_notV, ↓r_bl', ↓r_if, ↓r_ifS, ↓r_asg, ↓r_name, ↓r_jnil, ↓r_jcons, ↓r_jtup, ↓r_jlst, ↓r_jlstP, ↓r_jsub, ↓r_jcut, ↓r_jcutP, ↓r_jcutA, ↓r_in2, ↓r_stP, ↓r_st0, ↓r_st1, ↓r_st2, ↓r_par, ↓r_ret, ↓r_retN, ↓r_drop, ↓r_brk, ↓r_cont, ↓r_raise, ↓r_nil, ↓r_cons, ↓r_tup, ↓r_lst, ↓r_new, ↓r_frz, ↓r_frzP, ↓r_cb, ↓r_call, ↓r_abs, ↓r_max, ↓r_min, ↓r_intI, ↓r_intB, ↓r_lenT, ↓r_lenL, ↓r_lenR, ↓r_lenP, ↓r_listL, ↓r_listR, ↓r_listOL, ↓r_tupleL, ↓r_tupleP, ↓r_isiII, ↓r_isiIB, ↓r_isiBI, ↓r_isiBB, ↓r_isiTT, ↓r_isiLL, ↓r_app, ↓r_appP, ↓r_clr, ↓r_clrP, ↓r_lstP, ↓r_cut, ↓r_onone, ↓r_osome, ↓r_int', ↓r_cutT, ↓r_cutLs, ↓r_cutP, ↓r_range1, ↓r_rg1, ↓rs0, ↓rsS, ↓ite_dec, ↓ite_ndec, ↓put_put, startD, List.length_cons, List.length_nil, and_assoc, and_true, true_and, and_self, or_self, or_false, false_or, or_true, true_or, decide_eq_true_eq, decide_true, decide_false, Bool.not_true, Bool.not_false, Bool.false_eq_true, if_true, if_false, ↓reduceIte, ne_eq, Nat.reduceLeDiff, Nat.reduceAdd, not_false_eq_true, not_true_eq_false, reduceCtorEq, Option.some.injEq, Int.reduceToNat, Int.reducePow, Int.reduceAdd, Int.reduceMul, Int.reduceSub, Int.reduceNeg, Int.reduceEq, List.nil_append, List.cons_append, ↓r_keep, ↓r_isExc, ↓r_indexM, ↓r_lstL, ↓r_eqF, ↓r_neF, ↓r_eqM, ↓r_neM, ↓r_isiFr, ↓r_eqB, ↓r_neB, beq_self_eq_true, ↓r_cutO, ↓r_cutOL, ↓r_cutOP, c1, c2, c3])
  split
  · intro p hp
    refine h p _ hp ⟨_, _, _, put_same, ?_, ?_, by omega, by omega, hk.mono (by decide)⟩
    · exact (fmod_rng (by decide)).1
    · exact Int.lt_of_lt_of_le (fmod_rng (by decide)).2 (by decide)
  · refine ⟨_, _, rfl, hk.mono (by decide), fun r hr0 hr1 => ?_⟩
    (try simp only [↓r_wm1, ↓r_wm2, ↓r_wm3, ↓r_wm4, ↓r_forT, ↓r_forI, ↓r_fU0, ↓r_fU1, ↓r_turn, ↓r_yes, ↓r_ofrz, ↓r_oown, ↓r_w0, ↓r_w1, ↓r_w2, ↓r_w3, ↓r_w4, ↓r_lcT, ↓r_lcI, ↓r_lcR, ↓r_cU0, ↓r_cU1, ↓r_s0, ↓r_n0, ↓r_s1, ↓r_n1, ↓r_s2, ↓r_n2, ↓r_s3, ↓r_n3, ↓r_s4, ↓r_n4, ↓r_s5, ↓r_n5, ↓r_s6, ↓r_n6, ↓r_s7, ↓r_n7, ↓r_s8, ↓r_n8, ↓r_s9, ↓r_n9, ↓r_s10, ↓r_n10, ↓r_s11, ↓r_n11, ↓r_s12, ↓r_n12, ↓r_s13, ↓r_n13, ↓r_s14, ↓r_n14, ↓r_s15, ↓r_n15, ↓r_s16, ↓r_n16, ↓r_s17, ↓r_n17, ↓r_s18, ↓r_n18, ↓r_s19, ↓r_n19, ↓r_s20, ↓r_n20, ↓r_s21, ↓r_n21, ↓r_s22, ↓r_n22, ↓r_s23, ↓r_n23, ↓r_s24, ↓r_n24, ↓r_s25, ↓r_n25, ↓r_fr0, ↓r_fr1, ↓r_frL, ↓r_frN, ↓r_frNN, ↓r_max3, ↓r_seq, ↓r_next, ↓r_var0, ↓r_varS, ↓r_c, ↓r_op, ↓r_addI, ↓r_addS, ↓r_addT, ↓r_addL, ↓r_sub, ↓r_mul, ↓r_div, ↓r_mod, ↓r_pow, ↓r_lt, ↓r_le, ↓r_gt, ↓r_ge, ↓r_eqI, ↓r_neI, ↓r_isN, ↓r_isT, ↓r_isI, ↓r_isR, ↓r_inN, ↓r_inT, ↓r_inI, ↓r_ixT, ↓r_ixLs, ↓r_ixRo, ↓r_ixP, ↓r_at0, ↓r_at1, ↓r_at2, ↓r_at3, ↓r_neg, ↓r_negC, ↓r_b, ↓r_bl, ↓r_and, ↓r_or, ↓r_not, ↓r_andV, ↓r_orV, ↓r_notV, ↓r_bl', ↓r_if, ↓r_ifS, ↓r_asg, ↓r_name, ↓r_jnil, ↓r_jcons, ↓r_jtup, ↓r_jlst, ↓r_jlstP, ↓r_jsub, ↓r_jcut, ↓r_jcutP, ↓r_jcutA, ↓r_in2, ↓r_stP, ↓r_st0, ↓r_st1, ↓r_st2, ↓r_par, ↓r_ret, ↓r_retN, ↓r_drop, ↓r_brk, ↓r_cont, ↓r_raise, ↓r_nil, ↓r_cons, ↓r_tup, ↓r_lst, ↓r_new, ↓r_frz, ↓r_frzP, ↓r_cb, ↓r_call, ↓r_abs, ↓r_max, ↓r_min, ↓r_intI, ↓r_intB, ↓r_lenT, ↓r_lenL, ↓r_lenR, ↓r_lenP, ↓r_listL, ↓r_listR, ↓r_listOL, ↓r_tupleL, ↓r_tupleP, ↓r_isiII, ↓r_isiIB, ↓r_isiBI, ↓r_isiBB, ↓r_isiTT, ↓r_isiLL, ↓r_app, ↓r_appP, ↓r_clr, ↓r_clrP, ↓r_lstP, ↓r_cut, ↓r_onone, ↓r_osome, ↓r_int', ↓r_cutT, ↓r_cutLs, ↓r_cutP, ↓r_range1, ↓r_rg1, ↓rs0, ↓rsS, ↓ite_dec, ↓ite_ndec, ↓put_put, startD, List.length_cons, List.length_nil, and_assoc, and_true, true_and, and_self, or_self, or_false, false_or, or_true, true_or, decide_eq_true_eq, decide_true, decide_false, Bool.not_true, Bool.not_false, Bool.false_eq_true, if_true, if_false, ↓reduceIte, ne_eq, Nat.reduceLeDiff, Nat.reduceAdd, not_false_eq_true, not_true_eq_false, reduceCtorEq, Option.some.injEq, Int.reduceToNat, Int.reducePow, Int.reduceAdd, Int.reduceMul, Int.reduceSub, Int.reduceNeg, Int.reduceEq, List.nil_append, List.cons_append, ↓r_keep, ↓r_isExc, ↓r_indexM, ↓r_lstL, ↓r_eqF, ↓r_neF, ↓r_eqM, ↓r_neM, ↓r_isiFr, ↓r_eqB, ↓r_neB, beq_self_eq_true, ↓r_cutO, ↓r_cutOL, ↓r_cutOP, c1])
    intro p hp
    refine h p _ hp ⟨_, _, _, put_same, hr0, Int.lt_of_lt_of_le hr1 (by decide), by omega, by omega, ?_⟩
    have := fmod_rng (x := c) (y := 1000000000000000009) (by decide)
    exact ((Bd.rng (n := 60) this.1 this.2 (by decide)).add hk).mono (by decide)
def pr__law_take : DSp := fun ds μ P _ => ∃ p many m, ds = [.ref p, .int many] ∧ Purse μ p m ∧ m ≤ 100000 ∧ 0 < many ∧ many ≤ 10 ^ 30 ∧ ∀ r ds', 0 ≤ r → r < many → Purse (put μ p (.lst ds')) p (m + 1) → P (.int r) (put μ p (.lst ds'))
theorem len__law_take : ∀ ds μ P PX, pr__law_take ds μ P PX → ds.length = (["_law_purse_here", "_law_many"] : List Str).length := by
  rintro ds μ P PX ⟨p, many, m, rfl, _⟩
  rfl
theorem ok__law_take {P : Program} {w : World} {K : PySem.W.Frag} {mg : Str → Option Value} {base : Heap} {f : Addr} {fd : FuncData} (F : Fun K "_law_take" "_law_take" s__law_take f fd)
    (d__law_mixed : Df P w K mg base "_law_mixed" ["_law_cell", "_law_k"] 1 pr__law_mixed) : FnOk P w K mg base (L2.CX P w) 2 f fd ["_law_purse_here", "_law_many"] (spD K pr__law_take) := by
  have nd := sc__law_take.nd
  refine fn_D (k := 1) F sc__law_take len__law_take (by decide) (fun cdv A outer s H E PX hr tk hp => ⟨_, (sd_cons (sd_if (pt_lt (pd_ix (vr 0) pd_int) (vr 1))
       (sd_cons (sd_asg (pd_add (pd_ix (vr 0) pd_int) pd_int) (gd_sub (vr 0) pd_int))
       (sd_one (sd_asg (pd_add (pd_ix (vr 0) pd_int) (pd_mul (vr 1) (pd_call d__law_mixed tk hr (by rfl) (da_cons (pd_ix (vr 0) pd_int) (da_cons (pd_add (pd_mul pd_int (pd_ix (vr 0) pd_int)) pd_int) da_nil))))) (gd_sub (vr 0) pd_int))))
       sd_nil)
      (sd_cons (sd_set 2 nd (pd_mod (pd_ix (vr 0) pd_int) (vr 1)))
      (sd_cons (sd_asg (pd_div (pd_ix (vr 0) pd_int) (vr 1)) (gd_sub (vr 0) pd_int))
      (sd_one (sd_ret (vr 2))))))⟩) ?_
  rintro ds μ P PX ⟨p, many, m, rfl, ⟨n, c, s, hp, hn, hn2, hc, hc2, hs⟩, hm, h0, h1, h⟩
  have hd : ∀ x, DivC x many := fun x => divC (n := 101) (by omega) (Bd.rng (Int.le_of_lt h0) (Int.lt_add_one_of_le h1) (by decide))
  have hz : ¬ many = 0 := by omega
  rw [← put_self hp]
  (try simp only [↓r_wm1, ↓r_wm2, ↓r_wm3, ↓r_wm4, ↓r_forT, ↓r_forI, ↓r_fU0, ↓r_fU1, ↓r_turn, ↓r_yes, ↓r_ofrz, ↓r_oown, ↓r_w0, ↓r_w1, ↓r_w2, ↓r_w3, ↓r_w4, ↓r_lcT, ↓r_lcI, ↓r_lcR, ↓r_cU0, ↓r_cU1, ↓r_s0, ↓r_n0, ↓r_s1, ↓r_n1, ↓r_s2, ↓r_n2, ↓r_s3, ↓r_n3, ↓r_s4, ↓r_n4, ↓r_s5, ↓r_n5, ↓r_s6, ↓r_n6, ↓r_s7, ↓r_n7, ↓r_s8, ↓r_n8, ↓r_s9, ↓r_n9, ↓r_s10, ↓r_n10, ↓r_s11, ↓r_n11, ↓r_s12, ↓r_n12, ↓r_s13, ↓r_n13, ↓r_s14, ↓r_n14, ↓r_s15, ↓r_n15, ↓r_s16, ↓r_n16, ↓r_s17, ↓r_n17, ↓r_s18, ↓r_n18, ↓r_s19, ↓r_n19, ↓r_s20, ↓r_n20, ↓r_s21, ↓r_n21, ↓r_s22, ↓r_n22, ↓r_s23, ↓r_n23, ↓r_s24, ↓r_n24, ↓r_s25, ↓r_n25, ↓r_fr0, ↓r_fr1, ↓r_frL, ↓r_frN, ↓r_frNN, ↓r_max3, ↓r_seq, ↓r_next, ↓r_var0, ↓r_varS, ↓r_c, ↓r_op, ↓r_addI, ↓r_addS, ↓r_addT, ↓r_addL, ↓r_sub, ↓r_mul, ↓r_div, ↓r_mod, ↓r_pow, ↓r_lt, ↓r_le, ↓r_gt, ↓r_ge, ↓r_eqI, ↓r_neI, ↓r_isN, ↓r_isT, ↓r_isI, ↓r_isR, ↓r_inN, ↓r_inT, ↓r_inI, ↓r_ixT, ↓r_ixLs, ↓r_ixRo, ↓r_ixP, ↓r_at0, ↓r_at1, ↓r_at2, ↓r_at3, ↓r_neg, ↓r_negC, ↓r_b, ↓r_bl, ↓r_and, ↓r_or, ↓r_not, ↓r_andV, ↓r_orV, ↓r_notV, ↓r_bl', ↓r_if, ↓r_ifS, ↓r_asg, ↓r_name, ↓r_jnil, ↓r_jcons, ↓r_jtup, ↓r_jlst, ↓r_jlstP, ↓r_jsub, ↓r_jcut, ↓r_jcutP, ↓r_jcutA, ↓r_in2, ↓r_stP, ↓r_st0, ↓r_st1, ↓r_st2, ↓r_par, ↓r_ret, ↓r_retN, ↓r_drop, ↓r_brk, ↓r_cont, ↓r_raise, ↓r_nil, ↓r_cons, ↓r_tup, ↓r_lst, ↓r_new, ↓r_frz, ↓r_frzP, ↓r_cb, ↓r_call, ↓r_abs, ↓r_max, ↓r_min, ↓r_intI, ↓r_intB, ↓r_lenT, ↓r_lenL, ↓r_lenR, ↓r_lenP, ↓r_listL, ↓r_listR, ↓r_listOL, ↓r_tupleL, ↓r_tupleP, ↓r_isiII, ↓r_isiIB, ↓r_isiBI, ↓r_isiBB, ↓r_isiTT, ↓r_isiLL, ↓r_app, ↓r_appP, ↓r_clr, ↓r_clrP, ↓r_lstP, ↓r_cut, ↓r_onone, ↓r_osome, ↓r_int', ↓r_cutT, ↓r_cutLs, ↓r_cutP, ↓r_range1, ↓r_rg1, ↓rs0, ↓rsS, ↓ite_dec, ↓ite_ndec, ↓put_put, startD, List.length_cons, List.length_nil, and_assoc, and_true, true_and, and_self, or_self, or_false, false_or, or_true, true_or, decide_eq_true_eq, decide_true, decide_false, Bool.not_true, Bool.not_false, Bool.false_eq_true, if_true, if_false, ↓reduceIte, ne_eq, Nat.reduceLeDiff, Nat.reduceAdd, not_false_eq_true, not_true_eq_false, reduceCtorEq, Option.some.injEq, Int.reduceToNat, Int.reducePow, Int.reduceAdd, Int.reduceMul, Int.reduceSub, Int.reduceNeg, Int.reduceEq, List.nil_append, List.cons_append, ↓r_keep, ↓r_isExc, ↓r_indexM, ↓r_lstL, ↓r_eqF, ↓r_neF, ↓r_eqM, ↓r_neM, ↓r_isiFr, ↓r_eqB, ↓r_neB, beq_self_eq_true, ↓r_cutO, ↓r_cutOL, ↓r_cutOP])
  split
  · rename_i hl
    refine ⟨mulC (m := 4) (n := 20) (by decide) (Bd.rng (m := 100002) (by omega) (by omega) (by decide)), _, _, rfl, (Bd.rng (n := 30) (m := 11000000) (by omega) (by omega) (by decide)).mono (by decide), fun r hr0 hr1 => ?_⟩
    have hb : MulC many r := mulC (m := 100) (n := 200) (Bd.rng (Int.le_of_lt h0) (Int.lt_add_one_of_le h1) (by decide)) (Bd.rng hr0 hr1 (by decide))
    (try simp only [↓r_wm1, ↓r_wm2, ↓r_wm3, ↓r_wm4, ↓r_forT, ↓r_forI, ↓r_fU0, ↓r_fU1, ↓r_turn, ↓r_yes, ↓r_ofrz, ↓r_oown, ↓r_w0, ↓r_w1, ↓r_w2, ↓r_w3, ↓r_w4, ↓r_lcT, ↓r_lcI, ↓r_lcR, ↓r_cU0, ↓r_cU1, ↓r_s0, ↓r_n0, ↓r_s1, ↓r_n1, ↓r_s2, ↓r_n2, ↓r_s3, ↓r_n3, ↓r_s4, ↓r_n4, ↓r_s5, ↓r_n5, ↓r_s6, ↓r_n6, ↓r_s7, ↓r_n7, ↓r_s8, ↓r_n8, ↓r_s9, ↓r_n9, ↓r_s10, ↓r_n10, ↓r_s11, ↓r_n11, ↓r_s12, ↓r_n12, ↓r_s13, ↓r_n13, ↓r_s14, ↓r_n14, ↓r_s15, ↓r_n15, ↓r_s16, ↓r_n16, ↓r_s17, ↓r_n17, ↓r_s18, ↓r_n18, ↓r_s19, ↓r_n19, ↓r_s20, ↓r_n20, ↓r_s21, ↓r_n21, ↓r_s22, ↓r_n22, ↓r_s23, ↓r_n23, ↓r_s24, ↓r_n24, ↓r_s25, ↓r_n25, ↓r_fr0, ↓r_fr1, ↓r_frL, ↓r_frN, ↓r_frNN, ↓r_max3, ↓r_seq, ↓r_next, ↓r_var0, ↓r_varS, ↓r_c, ↓r_op, ↓r_addI, ↓r_addS, ↓r_addT, ↓r_addL, ↓r_sub, ↓r_mul, ↓r_div, ↓r_mod, ↓r_pow, ↓r_lt, ↓r_le, ↓r_gt, ↓r_ge, ↓r_eqI, ↓r_neI, ↓r_isN, ↓r_isT, ↓r_isI, ↓r_isR, ↓r_inN, ↓r_inT, ↓r_inI, ↓r_ixT, ↓r_ixLs, ↓r_ixRo, ↓r_ixP, ↓r_at0, ↓r_at1, ↓r_at2, ↓r_at3, ↓r_neg, ↓r_negC, ↓r_b, ↓r_bl, ↓r_and, ↓r_or, ↓r_not, ↓r_andV, ↓r_orV, ↓r_notV, ↓r_bl', ↓r_if, ↓r_ifS, ↓r_asg, ↓r_name, ↓r_jnil, ↓r_jcons, ↓r_jtup, ↓r_jlst, ↓r_jlstP, ↓r_jsub, ↓r_jcut, ↓r_jcutP, ↓r_jcutA, ↓r_in2, ↓r_stP, ↓r_st0, ↓r_st1, ↓r_st2, ↓r_par, ↓r_ret, ↓r_retN, ↓r_drop, ↓r_brk, ↓r_cont, ↓r_raise, ↓r_nil, ↓r_cons, ↓r_tup, ↓r_lst, ↓r_new, ↓r_frz, ↓r_frzP, ↓r_cb, ↓r_call, ↓r_abs, ↓r_max, ↓r_min, ↓r_intI, ↓r_intB, ↓r_lenT, ↓r_lenL, ↓r_lenR, ↓r_lenP, ↓r_listL, ↓r_listR, ↓r_listOL, ↓r_tupleL, ↓r_tupleP, ↓r_isiII, ↓r_isiIB, ↓r_isiBI, ↓r_isiBB, ↓r_isiTT, ↓r_isiLL, ↓r_app, ↓r_appP, ↓r_clr, ↓r_clrP, ↓r_lstP, ↓r_cut, ↓r_onone, ↓r_osome, ↓r_int', ↓r_cutT, ↓r_cutLs, ↓r_cutP, ↓r_range1, ↓r_rg1, ↓rs0, ↓rsS, ↓ite_dec, ↓ite_ndec, ↓put_put, startD, List.length_cons, List.length_nil, and_assoc, and_true, true_and, and_self, or_self, or_false, false_or, or_true, true_or, decide_eq_true_eq, decide_true, decide_false, Bool.not_true, Bool.not_false, Bool.false_eq_true, if_true, if_false, ↓reduceIte, ne_eq, Nat.reduceLeDiff, Nat.reduceAdd, not_false_eq_true, not_true_eq_false, reduceCtorEq, Option.some.injEq, Int.reduceToNat, Int.reducePow, Int.reduceAdd, Int.reduceMul, Int.reduceSub, Int.reduceNeg, Int.reduceEq, List.nil_append, List.cons_append, ↓r_keep, ↓r_isExc, ↓r_indexM, ↓r_lstL, ↓r_eqF, ↓r_neF, ↓r_eqM, ↓r_neM, ↓r_isiFr, ↓r_eqB, ↓r_neB, beq_self_eq_true, ↓r_cutO, ↓r_cutOL, ↓r_cutOP, hb, hz, hd])
    have k0 := fmod_rng (x := n + many * r) h0
    have k1 := fdiv_rng (x := n + many * r) (n := 10 ^ 600) h0 (by have := Int.mul_nonneg (Int.le_of_lt h0) hr0; omega) (by
      have h2 : many * r ≤ 10 ^ 30 * (10 ^ 60 + 7) := Int.mul_le_mul h1 (Int.le_of_lt hr1) hr0 (by decide)
      have h3 : n < 10 ^ 30 := Int.lt_of_lt_of_le hl h1
      have h4 : (10 : Int) ^ 30 + 10 ^ 30 * (10 ^ 60 + 7) < 10 ^ 600 := by decide
      omega)
    have := h ((n + many * r).fmod many) [.int ((n + many * r).fdiv many), .int (c + 1), .int s] k0.1 k0.2 ⟨_, _, _, put_same, k1.1, k1.2, by omega, by omega, hs⟩
    exact this
  · refine ⟨hz, hd _, ?_⟩
    have k0 := fmod_rng (x := n) h0
    have k1 := fdiv_rng (x := n) (n := 10 ^ 600) h0 hn hn2
    have := h (n.fmod many) [.int (n.fdiv many), .int c, .int s] k0.1 k0.2 ⟨_, _, _, put_same, k1.1, k1.2, by omega, by omega, hs⟩
    exact this
def pr__law_plus : DSp := fun ds μ P _ => ∃ p q n, ds = [fr p, fr q] ∧ Fr p ∧ Fr q ∧ FB n p ∧ FB n q ∧ n ≤ 4000 ∧ P (fr (fadd p q)) μ
theorem len__law_plus : ∀ ds μ P PX, pr__law_plus ds μ P PX → ds.length = (["_law_one", "_law_other"] : List Str).length := by
  rintro ds μ P PX ⟨p, q, n, rfl, _⟩
  rfl
theorem ok__law_plus {P : Program} {w : World} {K : PySem.W.Frag} {mg : Str → Option Value} {base : Heap} {f : Addr} {fd : FuncData} (F : Fun K "_law_plus" "_law_plus" s__law_plus f fd)
    (d__law_low : Df P w K mg base "_law_low" ["_law_top", "_law_bottom"] 1 pr__law_low) : FnOk P w K mg base (L2.CX P w) 2 f fd ["_law_one", "_law_other"] (spD K pr__law_plus) := by
  have nd := sc__law_plus.nd
  refine fn_D (k := 1) F sc__law_plus len__law_plus (by decide) (fun cdv A outer s H E PX hr tk hp => ⟨_, (sd_one (sd_ret (pd_call d__law_low tk hr (by rfl) (da_cons (pd_add (pd_mul (pd_ix (vr 0) pd_int) (pd_ix (vr 1) pd_int)) (pd_mul (pd_ix (vr 1) pd_int) (pd_ix (vr 0) pd_int))) (da_cons (pd_mul (pd_ix (vr 0) pd_int) (pd_ix (vr 1) pd_int)) da_nil)))))⟩) ?_
  rintro ds μ P PX ⟨p, q, n, rfl, hp, hq, bp, bq, hn, h⟩
  (try simp only [↓r_wm1, ↓r_wm2, ↓r_wm3, ↓r_wm4, ↓r_forT, ↓r_forI, ↓r_fU0, ↓r_fU1, ↓r_turn, ↓r_yes, ↓r_ofrz, ↓r_oown, ↓r_w0, ↓r_w1, ↓r_w2, ↓r_w3, ↓r_w4, ↓r_lcT, ↓r_lcI, ↓r_lcR, ↓r_cU0, ↓r_cU1, ↓r_s0, ↓r_n0, ↓r_s1, ↓r_n1, ↓r_s2, ↓r_n2, ↓r_s3, ↓r_n3, ↓r_s4, ↓r_n4, ↓r_s5, ↓r_n5, ↓r_s6, ↓r_n6, ↓r_s7, ↓r_n7, ↓r_s8, ↓r_n8, ↓r_s9, ↓r_n9, ↓r_s10, ↓r_n10, ↓r_s11, ↓r_n11, ↓r_s12, ↓r_n12, ↓r_s13, ↓r_n13, ↓r_s14, ↓r_n14, ↓r_s15, ↓r_n15, ↓r_s16, ↓r_n16, ↓r_s17, ↓r_n17, ↓r_s18, ↓r_n18, ↓r_s19, ↓r_n19, ↓r_s20, ↓r_n20, ↓r_s21, ↓r_n21, ↓r_s22, ↓r_n22, ↓r_s23, ↓r_n23, ↓r_s24, ↓r_n24, ↓r_s25, ↓r_n25, ↓r_fr0, ↓r_fr1, ↓r_frL, ↓r_frN, ↓r_frNN, ↓r_max3, ↓r_seq, ↓r_next, ↓r_var0, ↓r_varS, ↓r_c, ↓r_op, ↓r_addI, ↓r_addS, ↓r_addT, ↓r_addL, ↓r_sub, ↓r_mul, ↓r_div, ↓r_mod, ↓r_pow, ↓r_lt, ↓r_le, ↓r_gt, ↓r_ge, ↓r_eqI, ↓r_neI, ↓r_isN, ↓r_isT, ↓r_isI, ↓r_isR, ↓r_inN, ↓r_inT, ↓r_inI, ↓r_ixT, ↓r_ixLs, ↓r_ixRo, ↓r_ixP, ↓r_at0, ↓r_at1, ↓r_at2, ↓r_at3, ↓r_neg, ↓r_negC, ↓r_b, ↓r_bl, ↓r_and, ↓r_or, ↓r_not, ↓r_andV, ↓r_orV, ↓r_notV, ↓r_bl', ↓r_if, ↓r_ifS, ↓r_asg, ↓r_name, ↓r_jnil, ↓r_jcons, ↓r_jtup, ↓r_jlst, ↓r_jlstP, ↓r_jsub, ↓r_jcut, ↓r_jcutP, ↓r_jcutA, ↓r_in2, ↓r_stP, ↓r_st0, ↓r_st1, ↓r_st2, ↓r_par, ↓r_ret, ↓r_retN, ↓r_drop, ↓r_brk, ↓r_cont, ↓r_raise, ↓r_nil, ↓r_cons, ↓r_tup, ↓r_lst, ↓r_new, ↓r_frz, ↓r_frzP, ↓r_cb, ↓r_call, ↓r_abs, ↓r_max, ↓r_min, ↓r_intI, ↓r_intB, ↓r_lenT, ↓r_lenL, ↓r_lenR, ↓r_lenP, ↓r_listL, ↓r_listR, ↓r_listOL, ↓r_tupleL, ↓r_tupleP, ↓r_isiII, ↓r_isiIB, ↓r_isiBI, ↓r_isiBB, ↓r_isiTT, ↓r_isiLL, ↓r_app, ↓r_appP, ↓r_clr, ↓r_clrP, ↓r_lstP, ↓r_cut, ↓r_onone, ↓r_osome, ↓r_int', ↓r_cutT, ↓r_cutLs, ↓r_cutP, ↓r_range1, ↓r_rg1, ↓rs0, ↓rsS, ↓ite_dec, ↓ite_ndec, ↓put_put, startD, List.length_cons, List.length_nil, and_assoc, and_true, true_and, and_self, or_self, or_false, false_or, or_true, true_or, decide_eq_true_eq, decide_true, decide_false, Bool.not_true, Bool.not_false, Bool.false_eq_true, if_true, if_false, ↓reduceIte, ne_eq, Nat.reduceLeDiff, Nat.reduceAdd, not_false_eq_true, not_true_eq_false, reduceCtorEq, Option.some.injEq, Int.reduceToNat, Int.reducePow, Int.reduceAdd, Int.reduceMul, Int.reduceSub, Int.reduceNeg, Int.reduceEq, List.nil_append, List.cons_append, ↓r_keep, ↓r_isExc, ↓r_indexM, ↓r_lstL, ↓r_eqF, ↓r_neF, ↓r_eqM, ↓r_neM, ↓r_isiFr, ↓r_eqB, ↓r_neB, beq_self_eq_true, ↓r_cutO, ↓r_cutOL, ↓r_cutOP])
  exact ⟨mulC bp.1 bq.2 (by omega), mulC bq.1 bp.2 (by omega), mulC bp.2 bq.2 (by omega), _, _, rfl, mul_ne hp hq, (bp.2.mul bq.2).mono (by omega), h⟩
def pr__law_less : DSp := fun ds μ P _ => ∃ p q n, ds = [fr p, fr q] ∧ Fr p ∧ Fr q ∧ FB n p ∧ FB n q ∧ n ≤ 4000 ∧ P (fr (fsub p q)) μ
theorem len__law_less : ∀ ds μ P PX, pr__law_less ds μ P PX → ds.length = (["_law_one", "_law_other"] : List Str).length := by
  rintro ds μ P PX ⟨p, q, n, rfl, _⟩
  rfl
theorem ok__law_less {P : Program} {w : World} {K : PySem.W.Frag} {mg : Str → Option Value} {base : Heap} {f : Addr} {fd : FuncData} (F : Fun K "_law_less" "_law_less" s__law_less f fd)
    (d__law_low : Df P w K mg base "_law_low" ["_law_top", "_law_bottom"] 1 pr__law_low) : FnOk P w K mg base (L2.CX P w) 2 f fd ["_law_one", "_law_other"] (spD K pr__law_less) := by
  have nd := sc__law_less.nd
  refine fn_D (k := 1) F sc__law_less len__law_less (by decide) (fun cdv A outer s H E PX hr tk hp => ⟨_, (sd_one (sd_ret (pd_call d__law_low tk hr (by rfl) (da_cons (pd_sub (pd_mul (pd_ix (vr 0) pd_int) (pd_ix (vr 1) pd_int)) (pd_mul (pd_ix (vr 1) pd_int) (pd_ix (vr 0) pd_int))) (da_cons (pd_mul (pd_ix (vr 0) pd_int) (pd_ix (vr 1) pd_int)) da_nil)))))⟩) ?_
  rintro ds μ P PX ⟨p, q, n, rfl, hp, hq, bp, bq, hn, h⟩
  (try simp only [↓r_wm1, ↓r_wm2, ↓r_wm3, ↓r_wm4, ↓r_forT, ↓r_forI, ↓r_fU0, ↓r_fU1, ↓r_turn, ↓r_yes, ↓r_ofrz, ↓r_oown, ↓r_w0, ↓r_w1, ↓r_w2, ↓r_w3, ↓r_w4, ↓r_lcT, ↓r_lcI, ↓r_lcR, ↓r_cU0, ↓r_cU1, ↓r_s0, ↓r_n0, ↓r_s1, ↓r_n1, ↓r_s2, ↓r_n2, ↓r_s3, ↓r_n3, ↓r_s4, ↓r_n4, ↓r_s5, ↓r_n5, ↓r_s6, ↓r_n6, ↓r_s7, ↓r_n7, ↓r_s8, ↓r_n8, ↓r_s9, ↓r_n9, ↓r_s10, ↓r_n10, ↓r_s11, ↓r_n11, ↓r_s12, ↓r_n12, ↓r_s13, ↓r_n13, ↓r_s14, ↓r_n14, ↓r_s15, ↓r_n15, ↓r_s16, ↓r_n16, ↓r_s17, ↓r_n17, ↓r_s18, ↓r_n18, ↓r_s19, ↓r_n19, ↓r_s20, ↓r_n20, ↓r_s21, ↓r_n21, ↓r_s22, ↓r_n22, ↓r_s23, ↓r_n23, ↓r_s24, ↓r_n24, ↓r_s25, ↓r_n25, ↓r_fr0, ↓r_fr1, ↓r_frL, ↓r_frN, ↓r_frNN, ↓r_max3, ↓r_seq, ↓r_next, ↓r_var0, ↓r_varS, ↓r_c, ↓r_op, ↓r_addI, ↓r_addS, ↓r_addT, ↓r_addL, ↓r_sub, ↓r_mul, ↓r_div, ↓r_mod, ↓r_pow, ↓r_lt, ↓r_le, ↓r_gt, ↓r_ge, ↓r_eqI, ↓r_neI, ↓r_isN, ↓r_isT, ↓r_isI, ↓r_isR, ↓r_inN, ↓r_inT, ↓r_inI, ↓r_ixT, ↓r_ixLs, ↓r_ixRo, ↓r_ixP, ↓r_at0, ↓r_at1, ↓r_at2, ↓r_at3, ↓r_neg, ↓r_negC, ↓r_b, ↓r_bl, ↓r_and, ↓r_or, ↓r_not, ↓r_andV, ↓r_orV, ↓r_notV, ↓r_bl', ↓r_if, ↓r_ifS, ↓r_asg, ↓r_name, ↓r_jnil, ↓r_jcons, ↓r_jtup, ↓r_jlst, ↓r_jlstP, ↓r_jsub, ↓r_jcut, ↓r_jcutP, ↓r_jcutA, ↓r_in2, ↓r_stP, ↓r_st0, ↓r_st1, ↓r_st2, ↓r_par, ↓r_ret, ↓r_retN, ↓r_drop, ↓r_brk, ↓r_cont, ↓r_raise, ↓r_nil, ↓r_cons, ↓r_tup, ↓r_lst, ↓r_new, ↓r_frz, ↓r_frzP, ↓r_cb, ↓r_call, ↓r_abs, ↓r_max, ↓r_min, ↓r_intI, ↓r_intB, ↓r_lenT, ↓r_lenL, ↓r_lenR, ↓r_lenP, ↓r_listL, ↓r_listR, ↓r_listOL, ↓r_tupleL, ↓r_tupleP, ↓r_isiII, ↓r_isiIB, ↓r_isiBI, ↓r_isiBB, ↓r_isiTT, ↓r_isiLL, ↓r_app, ↓r_appP, ↓r_clr, ↓r_clrP, ↓r_lstP, ↓r_cut, ↓r_onone, ↓r_osome, ↓r_int', ↓r_cutT, ↓r_cutLs, ↓r_cutP, ↓r_range1, ↓r_rg1, ↓rs0, ↓rsS, ↓ite_dec, ↓ite_ndec, ↓put_put, startD, List.length_cons, List.length_nil, and_assoc, and_true, true_and, and_self, or_self, or_false, false_or, or_true, true_or, decide_eq_true_eq, decide_true, decide_false, Bool.not_true, Bool.not_false, Bool.false_eq_true, if_true, if_false, ↓reduceIte, ne_eq, Nat.reduceLeDiff, Nat.reduceAdd, not_false_eq_true, not_true_eq_false, reduceCtorEq, Option.some.injEq, Int.reduceToNat, Int.reducePow, Int.reduceAdd, Int.reduceMul, Int.reduceSub, Int.reduceNeg, Int.reduceEq, List.nil_append, List.cons_append, ↓r_keep, ↓r_isExc, ↓r_indexM, ↓r_lstL, ↓r_eqF, ↓r_neF, ↓r_eqM, ↓r_neM, ↓r_isiFr, ↓r_eqB, ↓r_neB, beq_self_eq_true, ↓r_cutO, ↓r_cutOL, ↓r_cutOP])
  exact ⟨mulC bp.1 bq.2 (by omega), mulC bq.1 bp.2 (by omega), mulC bp.2 bq.2 (by omega), _, _, rfl, mul_ne hp hq, (bp.2.mul bq.2).mono (by omega), h⟩
def pr__law_by : DSp := fun ds μ P _ => ∃ p q n, ds = [fr p, fr q] ∧ Fr p ∧ Fr q ∧ FB n p ∧ FB n q ∧ n ≤ 4000 ∧ P (fr (fmul p q)) μ
theorem len__law_by : ∀ ds μ P PX, pr__law_by ds μ P PX → ds.length = (["_law_one", "_law_other"] : List Str).length := by
  rintro ds μ P PX ⟨p, q, n, rfl, _⟩
  rfl
theorem ok__law_by {P : Program} {w : World} {K : PySem.W.Frag} {mg : Str → Option Value} {base : Heap} {f : Addr} {fd : FuncData} (F : Fun K "_law_by" "_law_by" s__law_by f fd)
    (d__law_low : Df P w K mg base "_law_low" ["_law_top", "_law_bottom"] 1 pr__law_low) : FnOk P w K mg base (L2.CX P w) 2 f fd ["_law_one", "_law_other"] (spD K pr__law_by) := by
  have nd := sc__law_by.nd
  refine fn_D (k := 1) F sc__law_by len__law_by (by decide) (fun cdv A outer s H E PX hr tk hp => ⟨_, (sd_one (sd_ret (pd_call d__law_low tk hr (by rfl) (da_cons (pd_mul (pd_ix (vr 0) pd_int) (pd_ix (vr 1) pd_int)) (da_cons (pd_mul (pd_ix (vr 0) pd_int) (pd_ix (vr 1) pd_int)) da_nil)))))⟩) ?_
  rintro ds μ P PX ⟨p, q, n, rfl, hp, hq, bp, bq, hn, h⟩
  (try simp only [↓r_wm1, ↓r_wm2, ↓r_wm3, ↓r_wm4, ↓r_forT, ↓r_forI, ↓r_fU0, ↓r_fU1, ↓r_turn, ↓r_yes, ↓r_ofrz, ↓r_oown, ↓r_w0, ↓r_w1, ↓r_w2, ↓r_w3, ↓r_w4, ↓r_lcT, ↓r_lcI, ↓r_lcR, ↓r_cU0, ↓r_cU1, ↓r_s0, ↓r_n0, ↓r_s1, ↓r_n1, ↓r_s2, ↓r_n2, ↓r_s3, ↓r_n3, ↓r_s4, ↓r_n4, ↓r_s5, ↓r_n5, ↓r_s6, ↓r_n6, ↓r_s7, ↓r_n7, ↓r_s8, ↓r_n8, ↓r_s9, ↓r_n9, ↓r_s10, ↓r_n10, ↓r_s11, ↓r_n11, ↓r_s12, ↓r_n12, ↓r_s13, ↓r_n13, ↓r_s14, ↓r_n14, ↓r_s15, ↓r_n15, ↓r_s16, ↓r_n16, ↓r_s17, ↓r_n17, ↓r_s18, ↓r_n18, ↓r_s19, ↓r_n19, ↓r_s20, ↓r_n20, ↓r_s21, ↓r_n21, ↓r_s22, ↓r_n22, ↓r_s23, ↓r_n23, ↓r_s24, ↓r_n24, ↓r_s25, ↓r_n25, ↓r_fr0, ↓r_fr1, ↓r_frL, ↓r_frN, ↓r_frNN, ↓r_max3, ↓r_seq, ↓r_next, ↓r_var0, ↓r_varS, ↓r_c, ↓r_op, ↓r_addI, ↓r_addS, ↓r_addT, ↓r_addL, ↓r_sub, ↓r_mul, ↓r_div, ↓r_mod, ↓r_pow, ↓r_lt, ↓r_le, ↓r_gt, ↓r_ge, ↓r_eqI, ↓r_neI, ↓r_isN, ↓r_isT, ↓r_isI, ↓r_isR, ↓r_inN, ↓r_inT, ↓r_inI, ↓r_ixT, ↓r_ixLs, ↓r_ixRo, ↓r_ixP, ↓r_at0, ↓r_at1, ↓r_at2, ↓r_at3, ↓r_neg, ↓r_negC, ↓r_b, ↓r_bl, ↓r_and, ↓r_or, ↓r_not, ↓r_andV, ↓r_orV, ↓r_notV, ↓r_bl', ↓r_if, ↓r_ifS, ↓r_asg, ↓r_name, ↓r_jnil, ↓r_jcons, ↓r_jtup, ↓r_jlst, ↓r_jlstP, ↓r_jsub, ↓r_jcut, ↓r_jcutP, ↓r_jcutA, ↓r_in2, ↓r_stP, ↓r_st0, ↓r_st1, ↓r_st2, ↓r_par, ↓r_ret, ↓r_retN, ↓r_drop, ↓r_brk, ↓r_cont, ↓r_raise, ↓r_nil, ↓r_cons, ↓r_tup, ↓r_lst, ↓r_new, ↓r_frz, ↓r_frzP, ↓r_cb, ↓r_call, ↓r_abs, ↓r_max, ↓r_min, ↓r_intI, ↓r_intB, ↓r_lenT, ↓r_lenL, ↓r_lenR, ↓r_lenP, ↓r_listL, ↓r_listR, ↓r_listOL, ↓r_tupleL, ↓r_tupleP, ↓r_isiII, ↓r_isiIB, ↓r_isiBI, ↓r_isiBB, ↓r_isiTT, ↓r_isiLL, ↓r_app, ↓r_appP, ↓r_clr, ↓r_clrP, ↓r_lstP, ↓r_cut, ↓r_onone, ↓r_osome, ↓r_int', ↓r_cutT, ↓r_cutLs, ↓r_cutP, ↓r_range1, ↓r_rg1, ↓rs0, ↓rsS, ↓ite_dec, ↓ite_ndec, ↓put_put, startD, List.length_cons, List.length_nil, and_assoc, and_true, true_and, and_self, or_self, or_false, false_or, or_true, true_or, decide_eq_true_eq, decide_true, decide_false, Bool.not_true, Bool.not_false, Bool.false_eq_true, if_true, if_false, ↓reduceIte, ne_eq, Nat.reduceLeDiff, Nat.reduceAdd, not_false_eq_true, not_true_eq_false, reduceCtorEq, Option.some.injEq, Int.reduceToNat, Int.reducePow, Int.reduceAdd, Int.reduceMul, Int.reduceSub, Int.reduceNeg, Int.reduceEq, List.nil_append, List.cons_append, ↓r_keep, ↓r_isExc, ↓r_indexM, ↓r_lstL, ↓r_eqF, ↓r_neF, ↓r_eqM, ↓r_neM, ↓r_isiFr, ↓r_eqB, ↓r_neB, beq_self_eq_true, ↓r_cutO, ↓r_cutOL, ↓r_cutOP])
  exact ⟨mulC bp.1 bq.1 (by omega), mulC bp.2 bq.2 (by omega), _, _, rfl, mul_ne hp hq, (bp.2.mul bq.2).mono (by omega), h⟩
def pr__law_root : DSp := fun ds μ P _ => ∃ (a b c s : Int) (n : Nat), ds = [.int a, .int b, .int c, .int s] ∧ 0 < a ∧ Bd n a ∧ Bd n b ∧ Bd n c ∧ n ≤ 1000 ∧ (s = 0 ∨ s = 1) ∧ 0 < b * b - 4 * a * c ∧ (∀ z : Int, z * z ≠ b * b - 4 * a * c) ∧
  P (Mom.r (a.fdiv (Int.gcd (Int.gcd a b : Nat) c : Nat)) (b.fdiv (Int.gcd (Int.gcd a b : Nat) c : Nat)) (c.fdiv (Int.gcd (Int.gcd a b : Nat) c : Nat)) s).d μ
theorem len__law_root : ∀ ds μ P PX, pr__law_root ds μ P PX → ds.length = (["_law_a", "_law_b", "_law_c", "_law_side"] : List Str).length := by
  rintro ds μ P PX ⟨a, b, c, s, n, rfl, _⟩
  rfl
theorem ok__law_root {P : Program} {w : World} {K : PySem.W.Frag} {mg : Str → Option Value} {base : Heap} {f : Addr} {fd : FuncData} (F : Fun K "_law_root" "_law_root" s__law_root f fd)
    (d__law_common : Df P w K mg base "_law_common" ["_law_one", "_law_other"] 1 pr__law_common) : FnOk P w K mg base (L2.CX P w) 2 f fd ["_law_a", "_law_b", "_law_c", "_law_side"] (spD K pr__law_root) := by
  have nd := sc__law_root.nd
  refine fn_D (k := 1) F sc__law_root len__law_root (by decide) (fun cdv A outer s H E PX hr tk hp => ⟨_, (sd_cons (sd_set 4 nd (pd_call d__law_common tk hr (by rfl) (da_cons (pd_call d__law_common tk hr (by rfl) (da_cons (vr 0) (da_cons (vr 1) da_nil))) (da_cons (vr 2) da_nil))))
      (sd_one (sd_ret (pd_tup (da_cons (pd_div (vr 0) (vr 4)) (da_cons (pd_div (vr 1) (vr 4)) (da_cons (pd_div (vr 2) (vr 4)) (da_cons (vr 3) da_nil))))))))⟩) ?_
  rintro ds μ P PX ⟨a, b, c, s, n, rfl, ha, ba, bb, bc, hn, hs, hd, hq, h⟩
  (try simp only [↓r_wm1, ↓r_wm2, ↓r_wm3, ↓r_wm4, ↓r_forT, ↓r_forI, ↓r_fU0, ↓r_fU1, ↓r_turn, ↓r_yes, ↓r_ofrz, ↓r_oown, ↓r_w0, ↓r_w1, ↓r_w2, ↓r_w3, ↓r_w4, ↓r_lcT, ↓r_lcI, ↓r_lcR, ↓r_cU0, ↓r_cU1, ↓r_s0, ↓r_n0, ↓r_s1, ↓r_n1, ↓r_s2, ↓r_n2, ↓r_s3, ↓r_n3, ↓r_s4, ↓r_n4, ↓r_s5, ↓r_n5, ↓r_s6, ↓r_n6, ↓r_s7, ↓r_n7, ↓r_s8, ↓r_n8, ↓r_s9, ↓r_n9, ↓r_s10, ↓r_n10, ↓r_s11, ↓r_n11, ↓r_s12, ↓r_n12, ↓r_s13, ↓r_n13, ↓r_s14, ↓r_n14, ↓r_s15, ↓r_n15, ↓r_s16, ↓r_n16, ↓r_s17, ↓r_n17, ↓r_s18, ↓r_n18, ↓r_s19, ↓r_n19, ↓r_s20, ↓r_n20, ↓r_s21, ↓r_n21, ↓r_s22, ↓r_n22, ↓r_s23, ↓r_n23, ↓r_s24, ↓r_n24, ↓r_s25, ↓r_n25, ↓r_fr0, ↓r_fr1, ↓r_frL, ↓r_frN, ↓r_frNN, ↓r_max3, ↓r_seq, ↓r_next, ↓r_var0, ↓r_varS, ↓r_c, ↓r_op, ↓r_addI, ↓r_addS, ↓r_addT, ↓r_addL, ↓r_sub, ↓r_mul, ↓r_div, ↓r_mod, ↓r_pow, ↓r_lt, ↓r_le, ↓r_gt, ↓r_ge, ↓r_eqI, ↓r_neI, ↓r_isN, ↓r_isT, ↓r_isI, ↓r_isR, ↓r_inN, ↓r_inT, ↓r_inI, ↓r_ixT, ↓r_ixLs, ↓r_ixRo, ↓r_ixP, ↓r_at0, ↓r_at1, ↓r_at2, ↓r_at3, ↓r_neg, ↓r_negC, ↓r_b, ↓r_bl, ↓r_and, ↓r_or, ↓r_not, ↓r_andV, ↓r_orV, ↓r_notV, ↓r_bl', ↓r_if, ↓r_ifS, ↓r_asg, ↓r_name, ↓r_jnil, ↓r_jcons, ↓r_jtup, ↓r_jlst, ↓r_jlstP, ↓r_jsub, ↓r_jcut, ↓r_jcutP, ↓r_jcutA, ↓r_in2, ↓r_stP, ↓r_st0, ↓r_st1, ↓r_st2, ↓r_par, ↓r_ret, ↓r_retN, ↓r_drop, ↓r_brk, ↓r_cont, ↓r_raise, ↓r_nil, ↓r_cons, ↓r_tup, ↓r_lst, ↓r_new, ↓r_frz, ↓r_frzP, ↓r_cb, ↓r_call, ↓r_abs, ↓r_max, ↓r_min, ↓r_intI, ↓r_intB, ↓r_lenT, ↓r_lenL, ↓r_lenR, ↓r_lenP, ↓r_listL, ↓r_listR, ↓r_listOL, ↓r_tupleL, ↓r_tupleP, ↓r_isiII, ↓r_isiIB, ↓r_isiBI, ↓r_isiBB, ↓r_isiTT, ↓r_isiLL, ↓r_app, ↓r_appP, ↓r_clr, ↓r_clrP, ↓r_lstP, ↓r_cut, ↓r_onone, ↓r_osome, ↓r_int', ↓r_cutT, ↓r_cutLs, ↓r_cutP, ↓r_range1, ↓r_rg1, ↓rs0, ↓rsS, ↓ite_dec, ↓ite_ndec, ↓put_put, startD, List.length_cons, List.length_nil, and_assoc, and_true, true_and, and_self, or_self, or_false, false_or, or_true, true_or, decide_eq_true_eq, decide_true, decide_false, Bool.not_true, Bool.not_false, Bool.false_eq_true, if_true, if_false, ↓reduceIte, ne_eq, Nat.reduceLeDiff, Nat.reduceAdd, not_false_eq_true, not_true_eq_false, reduceCtorEq, Option.some.injEq, Int.reduceToNat, Int.reducePow, Int.reduceAdd, Int.reduceMul, Int.reduceSub, Int.reduceNeg, Int.reduceEq, List.nil_append, List.cons_append, ↓r_keep, ↓r_isExc, ↓r_indexM, ↓r_lstL, ↓r_eqF, ↓r_neF, ↓r_eqM, ↓r_neM, ↓r_isiFr, ↓r_eqB, ↓r_neB, beq_self_eq_true, ↓r_cutO, ↓r_cutOL, ↓r_cutOP])
  refine ⟨a, b, rfl, ?_⟩
  (try simp only [↓r_wm1, ↓r_wm2, ↓r_wm3, ↓r_wm4, ↓r_forT, ↓r_forI, ↓r_fU0, ↓r_fU1, ↓r_turn, ↓r_yes, ↓r_ofrz, ↓r_oown, ↓r_w0, ↓r_w1, ↓r_w2, ↓r_w3, ↓r_w4, ↓r_lcT, ↓r_lcI, ↓r_lcR, ↓r_cU0, ↓r_cU1, ↓r_s0, ↓r_n0, ↓r_s1, ↓r_n1, ↓r_s2, ↓r_n2, ↓r_s3, ↓r_n3, ↓r_s4, ↓r_n4, ↓r_s5, ↓r_n5, ↓r_s6, ↓r_n6, ↓r_s7, ↓r_n7, ↓r_s8, ↓r_n8, ↓r_s9, ↓r_n9, ↓r_s10, ↓r_n10, ↓r_s11, ↓r_n11, ↓r_s12, ↓r_n12, ↓r_s13, ↓r_n13, ↓r_s14, ↓r_n14, ↓r_s15, ↓r_n15, ↓r_s16, ↓r_n16, ↓r_s17, ↓r_n17, ↓r_s18, ↓r_n18, ↓r_s19, ↓r_n19, ↓r_s20, ↓r_n20, ↓r_s21, ↓r_n21, ↓r_s22, ↓r_n22, ↓r_s23, ↓r_n23, ↓r_s24, ↓r_n24, ↓r_s25, ↓r_n25, ↓r_fr0, ↓r_fr1, ↓r_frL, ↓r_frN, ↓r_frNN, ↓r_max3, ↓r_seq, ↓r_next, ↓r_var0, ↓r_varS, ↓r_c, ↓r_op, ↓r_addI, ↓r_addS, ↓r_addT, ↓r_addL, ↓r_sub, ↓r_mul, ↓r_div, ↓r_mod, ↓r_pow, ↓r_lt, ↓r_le, ↓r_gt, ↓r_ge, ↓r_eqI, ↓r_neI, ↓r_isN, ↓r_isT, ↓r_isI, ↓r_isR, ↓r_inN, ↓r_inT, ↓r_inI, ↓r_ixT, ↓r_ixLs, ↓r_ixRo, ↓r_ixP, ↓r_at0, ↓r_at1, ↓r_at2, ↓r_at3, ↓r_neg, ↓r_negC, ↓r_b, ↓r_bl, ↓r_and, ↓r_or, ↓r_not, ↓r_andV, ↓r_orV, ↓r_notV, ↓r_bl', ↓r_if, ↓r_ifS, ↓r_asg, ↓r_name, ↓r_jnil, ↓r_jcons, ↓r_jtup, ↓r_jlst, ↓r_jlstP, ↓r_jsub, ↓r_jcut, ↓r_jcutP, ↓r_jcutA, ↓r_in2, ↓r_stP, ↓r_st0, ↓r_st1, ↓r_st2, ↓r_par, ↓r_ret, ↓r_retN, ↓r_drop, ↓r_brk, ↓r_cont, ↓r_raise, ↓r_nil, ↓r_cons, ↓r_tup, ↓r_lst, ↓r_new, ↓r_frz, ↓r_frzP, ↓r_cb, ↓r_call, ↓r_abs, ↓r_max, ↓r_min, ↓r_intI, ↓r_intB, ↓r_lenT, ↓r_lenL, ↓r_lenR, ↓r_lenP, ↓r_listL, ↓r_listR, ↓r_listOL, ↓r_tupleL, ↓r_tupleP, ↓r_isiII, ↓r_isiIB, ↓r_isiBI, ↓r_isiBB, ↓r_isiTT, ↓r_isiLL, ↓r_app, ↓r_appP, ↓r_clr, ↓r_clrP, ↓r_lstP, ↓r_cut, ↓r_onone, ↓r_osome, ↓r_int', ↓r_cutT, ↓r_cutLs, ↓r_cutP, ↓r_range1, ↓r_rg1, ↓rs0, ↓rsS, ↓ite_dec, ↓ite_ndec, ↓put_put, startD, List.length_cons, List.length_nil, and_assoc, and_true, true_and, and_self, or_self, or_false, false_or, or_true, true_or, decide_eq_true_eq, decide_true, decide_false, Bool.not_true, Bool.not_false, Bool.false_eq_true, if_true, if_false, ↓reduceIte, ne_eq, Nat.reduceLeDiff, Nat.reduceAdd, not_false_eq_true, not_true_eq_false, reduceCtorEq, Option.some.injEq, Int.reduceToNat, Int.reducePow, Int.reduceAdd, Int.reduceMul, Int.reduceSub, Int.reduceNeg, Int.reduceEq, List.nil_append, List.cons_append, ↓r_keep, ↓r_isExc, ↓r_indexM, ↓r_lstL, ↓r_eqF, ↓r_neF, ↓r_eqM, ↓r_neM, ↓r_isiFr, ↓r_eqB, ↓r_neB, beq_self_eq_true, ↓r_cutO, ↓r_cutOL, ↓r_cutOP])
  refine ⟨_, c, rfl, ?_⟩
  have d1 : ((Int.gcd (Int.gcd a b : Nat) c : Nat) : Int) ∣ a := Int.dvd_trans (Int.gcd_dvd_left _ _) (Int.gcd_dvd_left a b)
  have g1 : Bd 1000 ((Int.gcd (Int.gcd a b : Nat) c : Nat) : Int) := (ba.mono hn).le (by
    have := Nat.le_of_dvd (Int.natAbs_pos.mpr (by omega)) (Int.natAbs_dvd_natAbs.mpr d1)
    simpa using this)
  have g0 : ((Int.gcd (Int.gcd a b : Nat) c : Nat) : Int) ≠ 0 := by
    intro z
    rw [z] at d1
    exact absurd (Int.zero_dvd.mp d1) (by omega)
  generalize Int.gcd (Int.gcd a b : Nat) c = g at *
  have hdv : ∀ x, DivC x g := fun x => divC g0 g1
  (try simp only [↓r_wm1, ↓r_wm2, ↓r_wm3, ↓r_wm4, ↓r_forT, ↓r_forI, ↓r_fU0, ↓r_fU1, ↓r_turn, ↓r_yes, ↓r_ofrz, ↓r_oown, ↓r_w0, ↓r_w1, ↓r_w2, ↓r_w3, ↓r_w4, ↓r_lcT, ↓r_lcI, ↓r_lcR, ↓r_cU0, ↓r_cU1, ↓r_s0, ↓r_n0, ↓r_s1, ↓r_n1, ↓r_s2, ↓r_n2, ↓r_s3, ↓r_n3, ↓r_s4, ↓r_n4, ↓r_s5, ↓r_n5, ↓r_s6, ↓r_n6, ↓r_s7, ↓r_n7, ↓r_s8, ↓r_n8, ↓r_s9, ↓r_n9, ↓r_s10, ↓r_n10, ↓r_s11, ↓r_n11, ↓r_s12, ↓r_n12, ↓r_s13, ↓r_n13, ↓r_s14, ↓r_n14, ↓r_s15, ↓r_n15, ↓r_s16, ↓r_n16, ↓r_s17, ↓r_n17, ↓r_s18, ↓r_n18, ↓r_s19, ↓r_n19, ↓r_s20, ↓r_n20, ↓r_s21, ↓r_n21, ↓r_s22, ↓r_n22, ↓r_s23, ↓r_n23, ↓r_s24, ↓r_n24, ↓r_s25, ↓r_n25, ↓r_fr0, ↓r_fr1, ↓r_frL, ↓r_frN, ↓r_frNN, ↓r_max3, ↓r_seq, ↓r_next, ↓r_var0, ↓r_varS, ↓r_c, ↓r_op, ↓r_addI, ↓r_addS, ↓r_addT, ↓r_addL, ↓r_sub, ↓r_mul, ↓r_div, ↓r_mod, ↓r_pow, ↓r_lt, ↓r_le, ↓r_gt, ↓r_ge, ↓r_eqI, ↓r_neI, ↓r_isN, ↓r_isT, ↓r_isI, ↓r_isR, ↓r_inN, ↓r_inT, ↓r_inI, ↓r_ixT, ↓r_ixLs, ↓r_ixRo, ↓r_ixP, ↓r_at0, ↓r_at1, ↓r_at2, ↓r_at3, ↓r_neg, ↓r_negC, ↓r_b, ↓r_bl, ↓r_and, ↓r_or, ↓r_not, ↓r_andV, ↓r_orV, ↓r_notV, ↓r_bl', ↓r_if, ↓r_ifS, ↓r_asg, ↓r_name, ↓r_jnil, ↓r_jcons, ↓r_jtup, ↓r_jlst, ↓r_jlstP, ↓r_jsub, ↓r_jcut, ↓r_jcutP, ↓r_jcutA, ↓r_in2, ↓r_stP, ↓r_st0, ↓r_st1, ↓r_st2, ↓r_par, ↓r_ret, ↓r_retN, ↓r_drop, ↓r_brk, ↓r_cont, ↓r_raise, ↓r_nil, ↓r_cons, ↓r_tup, ↓r_lst, ↓r_new, ↓r_frz, ↓r_frzP, ↓r_cb, ↓r_call, ↓r_abs, ↓r_max, ↓r_min, ↓r_intI, ↓r_intB, ↓r_lenT, ↓r_lenL, ↓r_lenR, ↓r_lenP, ↓r_listL, ↓r_listR, ↓r_listOL, ↓r_tupleL, ↓r_tupleP, ↓r_isiII, ↓r_isiIB, ↓r_isiBI, ↓r_isiBB, ↓r_isiTT, ↓r_isiLL, ↓r_app, ↓r_appP, ↓r_clr, ↓r_clrP, ↓r_lstP, ↓r_cut, ↓r_onone, ↓r_osome, ↓r_int', ↓r_cutT, ↓r_cutLs, ↓r_cutP, ↓r_range1, ↓r_rg1, ↓rs0, ↓rsS, ↓ite_dec, ↓ite_ndec, ↓put_put, startD, List.length_cons, List.length_nil, and_assoc, and_true, true_and, and_self, or_self, or_false, false_or, or_true, true_or, decide_eq_true_eq, decide_true, decide_false, Bool.not_true, Bool.not_false, Bool.false_eq_true, if_true, if_false, ↓reduceIte, ne_eq, Nat.reduceLeDiff, Nat.reduceAdd, not_false_eq_true, not_true_eq_false, reduceCtorEq, Option.some.injEq, Int.reduceToNat, Int.reducePow, Int.reduceAdd, Int.reduceMul, Int.reduceSub, Int.reduceNeg, Int.reduceEq, List.nil_append, List.cons_append, ↓r_keep, ↓r_isExc, ↓r_indexM, ↓r_lstL, ↓r_eqF, ↓r_neF, ↓r_eqM, ↓r_neM, ↓r_isiFr, ↓r_eqB, ↓r_neB, beq_self_eq_true, ↓r_cutO, ↓r_cutOL, ↓r_cutOP, hdv])
  exact h
def pr__law_root_w : DSp := fun ds μ P _ => ∃ (a b c s : Int) (n : Nat), ds = [.int a, .int b, .int c, .int s] ∧ 0 < a ∧ Bd n a ∧ Bd n b ∧ Bd n c ∧ n ≤ 1000 ∧   P (Mom.r (a.fdiv (Int.gcd (Int.gcd a b : Nat) c : Nat)) (b.fdiv (Int.gcd (Int.gcd a b : Nat) c : Nat)) (c.fdiv (Int.gcd (Int.gcd a b : Nat) c : Nat)) s).d μ
theorem len__law_root_w : ∀ ds μ P PX, pr__law_root_w ds μ P PX → ds.length = (["_law_a", "_law_b", "_law_c", "_law_side"] : List Str).length := by
  rintro ds μ P PX ⟨a, b, c, s, n, rfl, _⟩
  rfl
theorem ok__law_root_w {P : Program} {w : World} {K : PySem.W.Frag} {mg : Str → Option Value} {base : Heap} {f : Addr} {fd : FuncData} (F : Fun K "_law_root" "_law_root" s__law_root f fd)
    (d__law_common : Df P w K mg base "_law_common" ["_law_one", "_law_other"] 1 pr__law_common) : FnOk P w K mg base (L2.CX P w) 2 f fd ["_law_a", "_law_b", "_law_c", "_law_side"] (spD K pr__law_root_w) := by
  have nd := sc__law_root.nd
  refine fn_D (k := 1) F sc__law_root len__law_root_w (by decide) (fun cdv A outer s H E PX hr tk hp => ⟨_, (sd_cons (sd_set 4 nd (pd_call d__law_common tk hr (by rfl) (da_cons (pd_call d__law_common tk hr (by rfl) (da_cons (vr 0) (da_cons (vr 1) da_nil))) (da_cons (vr 2) da_nil))))
      (sd_one (sd_ret (pd_tup (da_cons (pd_div (vr 0) (vr 4)) (da_cons (pd_div (vr 1) (vr 4)) (da_cons (pd_div (vr 2) (vr 4)) (da_cons (vr 3) da_nil))))))))⟩) ?_
  rintro ds μ P PX ⟨a, b, c, s, n, rfl, ha, ba, bb, bc, hn, h⟩
  (try simp only [↓r_wm1, ↓r_wm2, ↓r_wm3, ↓r_wm4, ↓r_forT, ↓r_forI, ↓r_fU0, ↓r_fU1, ↓r_turn, ↓r_yes, ↓r_ofrz, ↓r_oown, ↓r_w0, ↓r_w1, ↓r_w2, ↓r_w3, ↓r_w4, ↓r_lcT, ↓r_lcI, ↓r_lcR, ↓r_cU0, ↓r_cU1, ↓r_s0, ↓r_n0, ↓r_s1, ↓r_n1, ↓r_s2, ↓r_n2, ↓r_s3, ↓r_n3, ↓r_s4, ↓r_n4, ↓r_s5, ↓r_n5, ↓r_s6, ↓r_n6, ↓r_s7, ↓r_n7, ↓r_s8, ↓r_n8, ↓r_s9, ↓r_n9, ↓r_s10, ↓r_n10, ↓r_s11, ↓r_n11, ↓r_s12, ↓r_n12, ↓r_s13, ↓r_n13, ↓r_s14, ↓r_n14, ↓r_s15, ↓r_n15, ↓r_s16, ↓r_n16, ↓r_s17, ↓r_n17, ↓r_s18, ↓r_n18, ↓r_s19, ↓r_n19, ↓r_s20, ↓r_n20, ↓r_s21, ↓r_n21, ↓r_s22, ↓r_n22, ↓r_s23, ↓r_n23, ↓r_s24, ↓r_n24, ↓r_s25, ↓r_n25, ↓r_fr0, ↓r_fr1, ↓r_frL, ↓r_frN, ↓r_frNN, ↓r_max3, ↓r_seq, ↓r_next, ↓r_var0, ↓r_varS, ↓r_c, ↓r_op, ↓r_addI, ↓r_addS, ↓r_addT, ↓r_addL, ↓r_sub, ↓r_mul, ↓r_div, ↓r_mod, ↓r_pow, ↓r_lt, ↓r_le, ↓r_gt, ↓r_ge, ↓r_eqI, ↓r_neI, ↓r_isN, ↓r_isT, ↓r_isI, ↓r_isR, ↓r_inN, ↓r_inT, ↓r_inI, ↓r_ixT, ↓r_ixLs, ↓r_ixRo, ↓r_ixP, ↓r_at0, ↓r_at1, ↓r_at2, ↓r_at3, ↓r_neg, ↓r_negC, ↓r_b, ↓r_bl, ↓r_and, ↓r_or, ↓r_not, ↓r_andV, ↓r_orV, ↓r_notV, ↓r_bl', ↓r_if, ↓r_ifS, ↓r_asg, ↓r_name, ↓r_jnil, ↓r_jcons, ↓r_jtup, ↓r_jlst, ↓r_jlstP, ↓r_jsub, ↓r_jcut, ↓r_jcutP, ↓r_jcutA, ↓r_in2, ↓r_stP, ↓r_st0, ↓r_st1, ↓r_st2, ↓r_par, ↓r_ret, ↓r_retN, ↓r_drop, ↓r_brk, ↓r_cont, ↓r_raise, ↓r_nil, ↓r_cons, ↓r_tup, ↓r_lst, ↓r_new, ↓r_frz, ↓r_frzP, ↓r_cb, ↓r_call, ↓r_abs, ↓r_max, ↓r_min, ↓r_intI, ↓r_intB, ↓r_lenT, ↓r_lenL, ↓r_lenR, ↓r_lenP, ↓r_listL, ↓r_listR, ↓r_listOL, ↓r_tupleL, ↓r_tupleP, ↓r_isiII, ↓r_isiIB, ↓r_isiBI, ↓r_isiBB, ↓r_isiTT, ↓r_isiLL, ↓r_app, ↓r_appP, ↓r_clr, ↓r_clrP, ↓r_lstP, ↓r_cut, ↓r_onone, ↓r_osome, ↓r_int', ↓r_cutT, ↓r_cutLs, ↓r_cutP, ↓r_range1, ↓r_rg1, ↓rs0, ↓rsS, ↓ite_dec, ↓ite_ndec, ↓put_put, startD, List.length_cons, List.length_nil, and_assoc, and_true, true_and, and_self, or_self, or_false, false_or, or_true, true_or, decide_eq_true_eq, decide_true, decide_false, Bool.not_true, Bool.not_false, Bool.false_eq_true, if_true, if_false, ↓reduceIte, ne_eq, Nat.reduceLeDiff, Nat.reduceAdd, not_false_eq_true, not_true_eq_false, reduceCtorEq, Option.some.injEq, Int.reduceToNat, Int.reducePow, Int.reduceAdd, Int.reduceMul, Int.reduceSub, Int.reduceNeg, Int.reduceEq, List.nil_append, List.cons_append, ↓r_keep, ↓r_isExc, ↓r_indexM, ↓r_lstL, ↓r_eqF, ↓r_neF, ↓r_eqM, ↓r_neM, ↓r_isiFr, ↓r_eqB, ↓r_neB, beq_self_eq_true, ↓r_cutO, ↓r_cutOL, ↓r_cutOP])
  refine ⟨a, b, rfl, ?_⟩
  (try simp only [↓r_wm1, ↓r_wm2, ↓r_wm3, ↓r_wm4, ↓r_forT, ↓r_forI, ↓r_fU0, ↓r_fU1, ↓r_turn, ↓r_yes, ↓r_ofrz, ↓r_oown, ↓r_w0, ↓r_w1, ↓r_w2, ↓r_w3, ↓r_w4, ↓r_lcT, ↓r_lcI, ↓r_lcR, ↓r_cU0, ↓r_cU1, ↓r_s0, ↓r_n0, ↓r_s1, ↓r_n1, ↓r_s2, ↓r_n2, ↓r_s3, ↓r_n3, ↓r_s4, ↓r_n4, ↓r_s5, ↓r_n5, ↓r_s6, ↓r_n6, ↓r_s7, ↓r_n7, ↓r_s8, ↓r_n8, ↓r_s9, ↓r_n9, ↓r_s10, ↓r_n10, ↓r_s11, ↓r_n11, ↓r_s12, ↓r_n12, ↓r_s13, ↓r_n13, ↓r_s14, ↓r_n14, ↓r_s15, ↓r_n15, ↓r_s16, ↓r_n16, ↓r_s17, ↓r_n17, ↓r_s18, ↓r_n18, ↓r_s19, ↓r_n19, ↓r_s20, ↓r_n20, ↓r_s21, ↓r_n21, ↓r_s22, ↓r_n22, ↓r_s23, ↓r_n23, ↓r_s24, ↓r_n24, ↓r_s25, ↓r_n25, ↓r_fr0, ↓r_fr1, ↓r_frL, ↓r_frN, ↓r_frNN, ↓r_max3, ↓r_seq, ↓r_next, ↓r_var0, ↓r_varS, ↓r_c, ↓r_op, ↓r_addI, ↓r_addS, ↓r_addT, ↓r_addL, ↓r_sub, ↓r_mul, ↓r_div, ↓r_mod, ↓r_pow, ↓r_lt, ↓r_le, ↓r_gt, ↓r_ge, ↓r_eqI, ↓r_neI, ↓r_isN, ↓r_isT, ↓r_isI, ↓r_isR, ↓r_inN, ↓r_inT, ↓r_inI, ↓r_ixT, ↓r_ixLs, ↓r_ixRo, ↓r_ixP, ↓r_at0, ↓r_at1, ↓r_at2, ↓r_at3, ↓r_neg, ↓r_negC, ↓r_b, ↓r_bl, ↓r_and, ↓r_or, ↓r_not, ↓r_andV, ↓r_orV, ↓r_notV, ↓r_bl', ↓r_if, ↓r_ifS, ↓r_asg, ↓r_name, ↓r_jnil, ↓r_jcons, ↓r_jtup, ↓r_jlst, ↓r_jlstP, ↓r_jsub, ↓r_jcut, ↓r_jcutP, ↓r_jcutA, ↓r_in2, ↓r_stP, ↓r_st0, ↓r_st1, ↓r_st2, ↓r_par, ↓r_ret, ↓r_retN, ↓r_drop, ↓r_brk, ↓r_cont, ↓r_raise, ↓r_nil, ↓r_cons, ↓r_tup, ↓r_lst, ↓r_new, ↓r_frz, ↓r_frzP, ↓r_cb, ↓r_call, ↓r_abs, ↓r_max, ↓r_min, ↓r_intI, ↓r_intB, ↓r_lenT, ↓r_lenL, ↓r_lenR, ↓r_lenP, ↓r_listL, ↓r_listR, ↓r_listOL, ↓r_tupleL, ↓r_tupleP, ↓r_isiII, ↓r_isiIB, ↓r_isiBI, ↓r_isiBB, ↓r_isiTT, ↓r_isiLL, ↓r_app, ↓r_appP, ↓r_clr, ↓r_clrP, ↓r_lstP, ↓r_cut, ↓r_onone, ↓r_osome, ↓r_int', ↓r_cutT, ↓r_cutLs, ↓r_cutP, ↓r_range1, ↓r_rg1, ↓rs0, ↓rsS, ↓ite_dec, ↓ite_ndec, ↓put_put, startD, List.length_cons, List.length_nil, and_assoc, and_true, true_and, and_self, or_self, or_false, false_or, or_true, true_or, decide_eq_true_eq, decide_true, decide_false, Bool.not_true, Bool.not_false, Bool.false_eq_true, if_true, if_false, ↓reduceIte, ne_eq, Nat.reduceLeDiff, Nat.reduceAdd, not_false_eq_true, not_true_eq_false, reduceCtorEq, Option.some.injEq, Int.reduceToNat, Int.reducePow, Int.reduceAdd, Int.reduceMul, Int.reduceSub, Int.reduceNeg, Int.reduceEq, List.nil_append, List.cons_append, ↓r_keep, ↓r_isExc, ↓r_indexM, ↓r_lstL, ↓r_eqF, ↓r_neF, ↓r_eqM, ↓r_neM, ↓r_isiFr, ↓r_eqB, ↓r_neB, beq_self_eq_true, ↓r_cutO, ↓r_cutOL, ↓r_cutOP])
  refine ⟨_, c, rfl, ?_⟩
  have d1 : ((Int.gcd (Int.gcd a b : Nat) c : Nat) : Int) ∣ a := Int.dvd_trans (Int.gcd_dvd_left _ _) (Int.gcd_dvd_left a b)
  have g1 : Bd 1000 ((Int.gcd (Int.gcd a b : Nat) c : Nat) : Int) := (ba.mono hn).le (by
    have := Nat.le_of_dvd (Int.natAbs_pos.mpr (by omega)) (Int.natAbs_dvd_natAbs.mpr d1)
    simpa using this)
  have g0 : ((Int.gcd (Int.gcd a b : Nat) c : Nat) : Int) ≠ 0 := by
    intro z
    rw [z] at d1
    exact absurd (Int.zero_dvd.mp d1) (by omega)
  generalize Int.gcd (Int.gcd a b : Nat) c = g at *
  have hdv : ∀ x, DivC x g := fun x => divC g0 g1
  (try simp only [↓r_wm1, ↓r_wm2, ↓r_wm3, ↓r_wm4, ↓r_forT, ↓r_forI, ↓r_fU0, ↓r_fU1, ↓r_turn, ↓r_yes, ↓r_ofrz, ↓r_oown, ↓r_w0, ↓r_w1, ↓r_w2, ↓r_w3, ↓r_w4, ↓r_lcT, ↓r_lcI, ↓r_lcR, ↓r_cU0, ↓r_cU1, ↓r_s0, ↓r_n0, ↓r_s1, ↓r_n1, ↓r_s2, ↓r_n2, ↓r_s3, ↓r_n3, ↓r_s4, ↓r_n4, ↓r_s5, ↓r_n5, ↓r_s6, ↓r_n6, ↓r_s7, ↓r_n7, ↓r_s8, ↓r_n8, ↓r_s9, ↓r_n9, ↓r_s10, ↓r_n10, ↓r_s11, ↓r_n11, ↓r_s12, ↓r_n12, ↓r_s13, ↓r_n13, ↓r_s14, ↓r_n14, ↓r_s15, ↓r_n15, ↓r_s16, ↓r_n16, ↓r_s17, ↓r_n17, ↓r_s18, ↓r_n18, ↓r_s19, ↓r_n19, ↓r_s20, ↓r_n20, ↓r_s21, ↓r_n21, ↓r_s22, ↓r_n22, ↓r_s23, ↓r_n23, ↓r_s24, ↓r_n24, ↓r_s25, ↓r_n25, ↓r_fr0, ↓r_fr1, ↓r_frL, ↓r_frN, ↓r_frNN, ↓r_max3, ↓r_seq, ↓r_next, ↓r_var0, ↓r_varS, ↓r_c, ↓r_op, ↓r_addI, ↓r_addS, ↓r_addT, ↓r_addL, ↓r_sub, ↓r_mul, ↓r_div, ↓r_mod, ↓r_pow, ↓r_lt, ↓r_le, ↓r_gt, ↓r_ge, ↓r_eqI, ↓r_neI, ↓r_isN, ↓r_isT, ↓r_isI, ↓r_isR, ↓r_inN, ↓r_inT, ↓r_inI, ↓r_ixT, ↓r_ixLs, ↓r_ixRo, ↓r_ixP, ↓r_at0, ↓r_at1, ↓r_at2, ↓r_at3, ↓r_neg, ↓r_negC, ↓r_b, ↓r_bl, ↓r_and, ↓r_or, ↓r_not, ↓r_andV, ↓r_orV, ↓r_notV, ↓r_bl', ↓r_if, ↓r_ifS, ↓r_asg, ↓r_name, ↓r_jnil, ↓r_jcons, ↓r_jtup, ↓r_jlst, ↓r_jlstP, ↓r_jsub, ↓r_jcut, ↓r_jcutP, ↓r_jcutA, ↓r_in2, ↓r_stP, ↓r_st0, ↓r_st1, ↓r_st2, ↓r_par, ↓r_ret, ↓r_retN, ↓r_drop, ↓r_brk, ↓r_cont, ↓r_raise, ↓r_nil, ↓r_cons, ↓r_tup, ↓r_lst, ↓r_new, ↓r_frz, ↓r_frzP, ↓r_cb, ↓r_call, ↓r_abs, ↓r_max, ↓r_min, ↓r_intI, ↓r_intB, ↓r_lenT, ↓r_lenL, ↓r_lenR, ↓r_lenP, ↓r_listL, ↓r_listR, ↓r_listOL, ↓r_tupleL, ↓r_tupleP, ↓r_isiII, ↓r_isiIB, ↓r_isiBI, ↓r_isiBB, ↓r_isiTT, ↓r_isiLL, ↓r_app, ↓r_appP, ↓r_clr, ↓r_clrP, ↓r_lstP, ↓r_cut, ↓r_onone, ↓r_osome, ↓r_int', ↓r_cutT, ↓r_cutLs, ↓r_cutP, ↓r_range1, ↓r_rg1, ↓rs0, ↓rsS, ↓ite_dec, ↓ite_ndec, ↓put_put, startD, List.length_cons, List.length_nil, and_assoc, and_true, true_and, and_self, or_self, or_false, false_or, or_true, true_or, decide_eq_true_eq, decide_true, decide_false, Bool.not_true, Bool.not_false, Bool.false_eq_true, if_true, if_false, ↓reduceIte, ne_eq, Nat.reduceLeDiff, Nat.reduceAdd, not_false_eq_true, not_true_eq_false, reduceCtorEq, Option.some.injEq, Int.reduceToNat, Int.reducePow, Int.reduceAdd, Int.reduceMul, Int.reduceSub, Int.reduceNeg, Int.reduceEq, List.nil_append, List.cons_append, ↓r_keep, ↓r_isExc, ↓r_indexM, ↓r_lstL, ↓r_eqF, ↓r_neF, ↓r_eqM, ↓r_neM, ↓r_isiFr, ↓r_eqB, ↓r_neB, beq_self_eq_true, ↓r_cutO, ↓r_cutOL, ↓r_cutOP, hdv])
  exact h
def pr_plus : DSp := fun ds μ P _ => ∃ p q n, ds = [fr p, fr q] ∧ Fr p ∧ Fr q ∧ FB n p ∧ FB n q ∧ n ≤ 4000 ∧ P (fr (fadd p q)) μ
theorem len_plus : ∀ ds μ P PX, pr_plus ds μ P PX → ds.length = (["one", "two"] : List Str).length := by
  rintro ds μ P PX ⟨p, q, n, rfl, _⟩
  rfl
theorem ok_plus {P : Program} {w : World} {K : PySem.W.Frag} {mg : Str → Option Value} {base : Heap} {f : Addr} {fd : FuncData} (F : Fun K "plus" "plus" s_plus f fd)
    (d_fraction : Df P w K mg base "fraction" ["top", "bottom"] 2 pr_fraction) : FnOk P w K mg base (L2.CX P w) 3 f fd ["one", "two"] (spD K pr_plus) := by
  have nd := sc_plus.nd
  refine fn_D (k := 2) F sc_plus len_plus (by decide) (fun cdv A outer s H E PX hr tk hp => ⟨_, (sd_one (sd_ret (pd_call d_fraction tk hr (by rfl) (da_cons (pd_add (pd_mul (pd_ix (vr 0) pd_int) (pd_ix (vr 1) pd_int)) (pd_mul (pd_ix (vr 1) pd_int) (pd_ix (vr 0) pd_int))) (da_cons (pd_mul (pd_ix (vr 0) pd_int) (pd_ix (vr 1) pd_int)) da_nil)))))⟩) ?_
  rintro ds μ P PX ⟨p, q, n, rfl, hp, hq, bp, bq, hn, h⟩
  (try simp only [↓r_wm1, ↓r_wm2, ↓r_wm3, ↓r_wm4, ↓r_forT, ↓r_forI, ↓r_fU0, ↓r_fU1, ↓r_turn, ↓r_yes, ↓r_ofrz, ↓r_oown, ↓r_w0, ↓r_w1, ↓r_w2, ↓r_w3, ↓r_w4, ↓r_lcT, ↓r_lcI, ↓r_lcR, ↓r_cU0, ↓r_cU1, ↓r_s0, ↓r_n0, ↓r_s1, ↓r_n1, ↓r_s2, ↓r_n2, ↓r_s3, ↓r_n3, ↓r_s4, ↓r_n4, ↓r_s5, ↓r_n5, ↓r_s6, ↓r_n6, ↓r_s7, ↓r_n7, ↓r_s8, ↓r_n8, ↓r_s9, ↓r_n9, ↓r_s10, ↓r_n10, ↓r_s11, ↓r_n11, ↓r_s12, ↓r_n12, ↓r_s13, ↓r_n13, ↓r_s14, ↓r_n14, ↓r_s15, ↓r_n15, ↓r_s16, ↓r_n16, ↓r_s17, ↓r_n17, ↓r_s18, ↓r_n18, ↓r_s19, ↓r_n19, ↓r_s20, ↓r_n20, ↓r_s21, ↓r_n21, ↓r_s22, ↓r_n22, ↓r_s23, ↓r_n23, ↓r_s24, ↓r_n24, ↓r_s25, ↓r_n25, ↓r_fr0, ↓r_fr1, ↓r_frL, ↓r_frN, ↓r_frNN, ↓r_max3, ↓r_seq, ↓r_next, ↓r_var0, ↓r_varS, ↓r_c, ↓r_op, ↓r_addI, ↓r_addS, ↓r_addT, ↓r_addL, ↓r_sub, ↓r_mul, ↓r_div, ↓r_mod, ↓r_pow, ↓r_lt, ↓r_le, ↓r_gt, ↓r_ge, ↓r_eqI, ↓r_neI, ↓r_isN, ↓r_isT, ↓r_isI, ↓r_isR, ↓r_inN, ↓r_inT, ↓r_inI, ↓r_ixT, ↓r_ixLs, ↓r_ixRo, ↓r_ixP, ↓r_at0, ↓r_at1, ↓r_at2, ↓r_at3, ↓r_neg, ↓r_negC, ↓r_b, ↓r_bl, ↓r_and, ↓r_or, ↓r_not, ↓r_andV, ↓r_orV, ↓r_notV, ↓r_bl', ↓r_if, ↓r_ifS, ↓r_asg, ↓r_name, ↓r_jnil, ↓r_jcons, ↓r_jtup, ↓r_jlst, ↓r_jlstP, ↓r_jsub, ↓r_jcut, ↓r_jcutP, ↓r_jcutA, ↓r_in2, ↓r_stP, ↓r_st0, ↓r_st1, ↓r_st2, ↓r_par, ↓r_ret, ↓r_retN, ↓r_drop, ↓r_brk, ↓r_cont, ↓r_raise, ↓r_nil, ↓r_cons, ↓r_tup, ↓r_lst, ↓r_new, ↓r_frz, ↓r_frzP, ↓r_cb, ↓r_call, ↓r_abs, ↓r_max, ↓r_min, ↓r_intI, ↓r_intB, ↓r_lenT, ↓r_lenL, ↓r_lenR, ↓r_lenP, ↓r_listL, ↓r_listR, ↓r_listOL, ↓r_tupleL, ↓r_tupleP, ↓r_isiII, ↓r_isiIB, ↓r_isiBI, ↓r_isiBB, ↓r_isiTT, ↓r_isiLL, ↓r_app, ↓r_appP, ↓r_clr, ↓r_clrP, ↓r_lstP, ↓r_cut, ↓r_onone, ↓r_osome, ↓r_int', ↓r_cutT, ↓r_cutLs, ↓r_cutP, ↓r_range1, ↓r_rg1, ↓rs0, ↓rsS, ↓ite_dec, ↓ite_ndec, ↓put_put, startD, List.length_cons, List.length_nil, and_assoc, and_true, true_and, and_self, or_self, or_false, false_or, or_true, true_or, decide_eq_true_eq, decide_true, decide_false, Bool.not_true, Bool.not_false, Bool.false_eq_true, if_true, if_false, ↓reduceIte, ne_eq, Nat.reduceLeDiff, Nat.reduceAdd, not_false_eq_true, not_true_eq_false, reduceCtorEq, Option.some.injEq, Int.reduceToNat, Int.reducePow, Int.reduceAdd, Int.reduceMul, Int.reduceSub, Int.reduceNeg, Int.reduceEq, List.nil_append, List.cons_append, ↓r_keep, ↓r_isExc, ↓r_indexM, ↓r_lstL, ↓r_eqF, ↓r_neF, ↓r_eqM, ↓r_neM, ↓r_isiFr, ↓r_eqB, ↓r_neB, beq_self_eq_true, ↓r_cutO, ↓r_cutOL, ↓r_cutOP])
  exact ⟨mulC bp.1 bq.2 (by omega), mulC bq.1 bp.2 (by omega), mulC bp.2 bq.2 (by omega), _, _, rfl, mul_ne hp hq, (bp.2.mul bq.2).mono (by omega), h⟩
def pr_minus : DSp := fun ds μ P _ => ∃ p q n, ds = [fr p, fr q] ∧ Fr p ∧ Fr q ∧ FB n p ∧ FB n q ∧ n ≤ 4000 ∧ P (fr (fsub p q)) μ
theorem len_minus : ∀ ds μ P PX, pr_minus ds μ P PX → ds.length = (["one", "two"] : List Str).length := by
  rintro ds μ P PX ⟨p, q, n, rfl, _⟩
  rfl
theorem ok_minus {P : Program} {w : World} {K : PySem.W.Frag} {mg : Str → Option Value} {base : Heap} {f : Addr} {fd : FuncData} (F : Fun K "minus" "minus" s_minus f fd)
    (d_fraction : Df P w K mg base "fraction" ["top", "bottom"] 2 pr_fraction) : FnOk P w K mg base (L2.CX P w) 3 f fd ["one", "two"] (spD K pr_minus) := by
  have nd := sc_minus.nd
  refine fn_D (k := 2) F sc_minus len_minus (by decide) (fun cdv A outer s H E PX hr tk hp => ⟨_, (sd_one (sd_ret (pd_call d_fraction tk hr (by rfl) (da_cons (pd_sub (pd_mul (pd_ix (vr 0) pd_int) (pd_ix (vr 1) pd_int)) (pd_mul (pd_ix (vr 1) pd_int) (pd_ix (vr 0) pd_int))) (da_cons (pd_mul (pd_ix (vr 0) pd_int) (pd_ix (vr 1) pd_int)) da_nil)))))⟩) ?_
  rintro ds μ P PX ⟨p, q, n, rfl, hp, hq, bp, bq, hn, h⟩
  (try simp only [↓r_wm1, ↓r_wm2, ↓r_wm3, ↓r_wm4, ↓r_forT, ↓r_forI, ↓r_fU0, ↓r_fU1, ↓r_turn, ↓r_yes, ↓r_ofrz, ↓r_oown, ↓r_w0, ↓r_w1, ↓r_w2, ↓r_w3, ↓r_w4, ↓r_lcT, ↓r_lcI, ↓r_lcR, ↓r_cU0, ↓r_cU1, ↓r_s0, ↓r_n0, ↓r_s1, ↓r_n1, ↓r_s2, ↓r_n2, ↓r_s3, ↓r_n3, ↓r_s4, ↓r_n4, ↓r_s5, ↓r_n5, ↓r_s6, ↓r_n6, ↓r_s7, ↓r_n7, ↓r_s8, ↓r_n8, ↓r_s9, ↓r_n9, ↓r_s10, ↓r_n10, ↓r_s11, ↓r_n11, ↓r_s12, ↓r_n12, ↓r_s13, ↓r_n13, ↓r_s14, ↓r_n14, ↓r_s15, ↓r_n15, ↓r_s16, ↓r_n16, ↓r_s17, ↓r_n17, ↓r_s18, ↓r_n18, ↓r_s19, ↓r_n19, ↓r_s20, ↓r_n20, ↓r_s21, ↓r_n21, ↓r_s22, ↓r_n22, ↓r_s23, ↓r_n23, ↓r_s24, ↓r_n24, ↓r_s25, ↓r_n25, ↓r_fr0, ↓r_fr1, ↓r_frL, ↓r_frN, ↓r_frNN, ↓r_max3, ↓r_seq, ↓r_next, ↓r_var0, ↓r_varS, ↓r_c, ↓r_op, ↓r_addI, ↓r_addS, ↓r_addT, ↓r_addL, ↓r_sub, ↓r_mul, ↓r_div, ↓r_mod, ↓r_pow, ↓r_lt, ↓r_le, ↓r_gt, ↓r_ge, ↓r_eqI, ↓r_neI, ↓r_isN, ↓r_isT, ↓r_isI, ↓r_isR, ↓r_inN, ↓r_inT, ↓r_inI, ↓r_ixT, ↓r_ixLs, ↓r_ixRo, ↓r_ixP, ↓r_at0, ↓r_at1, ↓r_at2, ↓r_at3, ↓r_neg, ↓r_negC, ↓r_b, ↓r_bl, ↓r_and, ↓r_or, ↓r_not, ↓r_andV, ↓r_orV, ↓r_notV, ↓r_bl', ↓r_if, ↓r_ifS, ↓r_asg, ↓r_name, ↓r_jnil, ↓r_jcons, ↓r_jtup, ↓r_jlst, ↓r_jlstP, ↓r_jsub, ↓r_jcut, ↓r_jcutP, ↓r_jcutA, ↓r_in2, ↓r_stP, ↓r_st0, ↓r_st1, ↓r_st2, ↓r_par, ↓r_ret, ↓r_retN, ↓r_drop, ↓r_brk, ↓r_cont, ↓r_raise, ↓r_nil, ↓r_cons, ↓r_tup, ↓r_lst, ↓r_new, ↓r_frz, ↓r_frzP, ↓r_cb, ↓r_call, ↓r_abs, ↓r_max, ↓r_min, ↓r_intI, ↓r_intB, ↓r_lenT, ↓r_lenL, ↓r_lenR, ↓r_lenP, ↓r_listL, ↓r_listR, ↓r_listOL, ↓r_tupleL, ↓r_tupleP, ↓r_isiII, ↓r_isiIB, ↓r_isiBI, ↓r_isiBB, ↓r_isiTT, ↓r_isiLL, ↓r_app, ↓r_appP, ↓r_clr, ↓r_clrP, ↓r_lstP, ↓r_cut, ↓r_onone, ↓r_osome, ↓r_int', ↓r_cutT, ↓r_cutLs, ↓r_cutP, ↓r_range1, ↓r_rg1, ↓rs0, ↓rsS, ↓ite_dec, ↓ite_ndec, ↓put_put, startD, List.length_cons, List.length_nil, and_assoc, and_true, true_and, and_self, or_self, or_false, false_or, or_true, true_or, decide_eq_true_eq, decide_true, decide_false, Bool.not_true, Bool.not_false, Bool.false_eq_true, if_true, if_false, ↓reduceIte, ne_eq, Nat.reduceLeDiff, Nat.reduceAdd, not_false_eq_true, not_true_eq_false, reduceCtorEq, Option.some.injEq, Int.reduceToNat, Int.reducePow, Int.reduceAdd, Int.reduceMul, Int.reduceSub, Int.reduceNeg, Int.reduceEq, List.nil_append, List.cons_append, ↓r_keep, ↓r_isExc, ↓r_indexM, ↓r_lstL, ↓r_eqF, ↓r_neF, ↓r_eqM, ↓r_neM, ↓r_isiFr, ↓r_eqB, ↓r_neB, beq_self_eq_true, ↓r_cutO, ↓r_cutOL, ↓r_cutOP])
  exact ⟨mulC bp.1 bq.2 (by omega), mulC bq.1 bp.2 (by omega), mulC bp.2 bq.2 (by omega), _, _, rfl, mul_ne hp hq, (bp.2.mul bq.2).mono (by omega), h⟩
def pr_times : DSp := fun ds μ P _ => ∃ p q n, ds = [fr p, fr q] ∧ Fr p ∧ Fr q ∧ FB n p ∧ FB n q ∧ n ≤ 4000 ∧ P (fr (fmul p q)) μ
theorem len_times : ∀ ds μ P PX, pr_times ds μ P PX → ds.length = (["one", "two"] : List Str).length := by
  rintro ds μ P PX ⟨p, q, n, rfl, _⟩
  rfl
theorem ok_times {P : Program} {w : World} {K : PySem.W.Frag} {mg : Str → Option Value} {base : Heap} {f : Addr} {fd : FuncData} (F : Fun K "times" "times" s_times f fd)
    (d_fraction : Df P w K mg base "fraction" ["top", "bottom"] 2 pr_fraction) : FnOk P w K mg base (L2.CX P w) 3 f fd ["one", "two"] (spD K pr_times) := by
  have nd := sc_times.nd
  refine fn_D (k := 2) F sc_times len_times (by decide) (fun cdv A outer s H E PX hr tk hp => ⟨_, (sd_one (sd_ret (pd_call d_fraction tk hr (by rfl) (da_cons (pd_mul (pd_ix (vr 0) pd_int) (pd_ix (vr 1) pd_int)) (da_cons (pd_mul (pd_ix (vr 0) pd_int) (pd_ix (vr 1) pd_int)) da_nil)))))⟩) ?_
  rintro ds μ P PX ⟨p, q, n, rfl, hp, hq, bp, bq, hn, h⟩
  (try simp only [↓r_wm1, ↓r_wm2, ↓r_wm3, ↓r_wm4, ↓r_forT, ↓r_forI, ↓r_fU0, ↓r_fU1, ↓r_turn, ↓r_yes, ↓r_ofrz, ↓r_oown, ↓r_w0, ↓r_w1, ↓r_w2, ↓r_w3, ↓r_w4, ↓r_lcT, ↓r_lcI, ↓r_lcR, ↓r_cU0, ↓r_cU1, ↓r_s0, ↓r_n0, ↓r_s1, ↓r_n1, ↓r_s2, ↓r_n2, ↓r_s3, ↓r_n3, ↓r_s4, ↓r_n4, ↓r_s5, ↓r_n5, ↓r_s6, ↓r_n6, ↓r_s7, ↓r_n7, ↓r_s8, ↓r_n8, ↓r_s9, ↓r_n9, ↓r_s10, ↓r_n10, ↓r_s11, ↓r_n11, ↓r_s12, ↓r_n12, ↓r_s13, ↓r_n13, ↓r_s14, ↓r_n14, ↓r_s15, ↓r_n15, ↓r_s16, ↓r_n16, ↓r_s17, ↓r_n17, ↓r_s18, ↓r_n18, ↓r_s19, ↓r_n19, ↓r_s20, ↓r_n20, ↓r_s21, ↓r_n21, ↓r_s22, ↓r_n22, ↓r_s23, ↓r_n23, ↓r_s24, ↓r_n24, ↓r_s25, ↓r_n25, ↓r_fr0, ↓r_fr1, ↓r_frL, ↓r_frN, ↓r_frNN, ↓r_max3, ↓r_seq, ↓r_next, ↓r_var0, ↓r_varS, ↓r_c, ↓r_op, ↓r_addI, ↓r_addS, ↓r_addT, ↓r_addL, ↓r_sub, ↓r_mul, ↓r_div, ↓r_mod, ↓r_pow, ↓r_lt, ↓r_le, ↓r_gt, ↓r_ge, ↓r_eqI, ↓r_neI, ↓r_isN, ↓r_isT, ↓r_isI, ↓r_isR, ↓r_inN, ↓r_inT, ↓r_inI, ↓r_ixT, ↓r_ixLs, ↓r_ixRo, ↓r_ixP, ↓r_at0, ↓r_at1, ↓r_at2, ↓r_at3, ↓r_neg, ↓r_negC, ↓r_b, ↓r_bl, ↓r_and, ↓r_or, ↓r_not, ↓r_andV, ↓r_orV, ↓r_notV, ↓r_bl', ↓r_if, ↓r_ifS, ↓r_asg, ↓r_name, ↓r_jnil, ↓r_jcons, ↓r_jtup, ↓r_jlst, ↓r_jlstP, ↓r_jsub, ↓r_jcut, ↓r_jcutP, ↓r_jcutA, ↓r_in2, ↓r_stP, ↓r_st0, ↓r_st1, ↓r_st2, ↓r_par, ↓r_ret, ↓r_retN, ↓r_drop, ↓r_brk, ↓r_cont, ↓r_raise, ↓r_nil, ↓r_cons, ↓r_tup, ↓r_lst, ↓r_new, ↓r_frz, ↓r_frzP, ↓r_cb, ↓r_call, ↓r_abs, ↓r_max, ↓r_min, ↓r_intI, ↓r_intB, ↓r_lenT, ↓r_lenL, ↓r_lenR, ↓r_lenP, ↓r_listL, ↓r_listR, ↓r_listOL, ↓r_tupleL, ↓r_tupleP, ↓r_isiII, ↓r_isiIB, ↓r_isiBI, ↓r_isiBB, ↓r_isiTT, ↓r_isiLL, ↓r_app, ↓r_appP, ↓r_clr, ↓r_clrP, ↓r_lstP, ↓r_cut, ↓r_onone, ↓r_osome, ↓r_int', ↓r_cutT, ↓r_cutLs, ↓r_cutP, ↓r_range1, ↓r_rg1, ↓rs0, ↓rsS, ↓ite_dec, ↓ite_ndec, ↓put_put, startD, List.length_cons, List.length_nil, and_assoc, and_true, true_and, and_self, or_self, or_false, false_or, or_true, true_or, decide_eq_true_eq, decide_true, decide_false, Bool.not_true, Bool.not_false, Bool.false_eq_true, if_true, if_false, ↓reduceIte, ne_eq, Nat.reduceLeDiff, Nat.reduceAdd, not_false_eq_true, not_true_eq_false, reduceCtorEq, Option.some.injEq, Int.reduceToNat, Int.reducePow, Int.reduceAdd, Int.reduceMul, Int.reduceSub, Int.reduceNeg, Int.reduceEq, List.nil_append, List.cons_append, ↓r_keep, ↓r_isExc, ↓r_indexM, ↓r_lstL, ↓r_eqF, ↓r_neF, ↓r_eqM, ↓r_neM, ↓r_isiFr, ↓r_eqB, ↓r_neB, beq_self_eq_true, ↓r_cutO, ↓r_cutOL, ↓r_cutOP])
  exact ⟨mulC bp.1 bq.1 (by omega), mulC bp.2 bq.2 (by omega), _, _, rfl, mul_ne hp hq, (bp.2.mul bq.2).mono (by omega), h⟩
def pr_told_root : DSp := fun ds μ P _ => ∃ (u : Cur) (s : Int) (n : Nat), ds = [u.d, .int s] ∧ u.Ok n ∧ u.nz ∧ n ≤ 2000 ∧ P (Mom.r (wcur u).a (wcur u).b (wcur u).c s).d μ
theorem len_told_root : ∀ ds μ P PX, pr_told_root ds μ P PX → ds.length = (["curve", "side"] : List Str).length := by
  rintro ds μ P PX ⟨u, s, n, rfl, _⟩
  rfl
theorem ok_told_root {P : Program} {w : World} {K : PySem.W.Frag} {mg : Str → Option Value} {base : Heap} {f : Addr} {fd : FuncData} (F : Fun K "told_root" "told_root" s_told_root f fd)
    (d_whole_curve : Df P w K mg base "whole_curve" ["curve"] 2 pr_whole_curve) : FnOk P w K mg base (L2.CX P w) 3 f fd ["curve", "side"] (spD K pr_told_root) := by
  have nd := sc_told_root.nd
  refine fn_D (k := 2) F sc_told_root len_told_root (by decide) (fun cdv A outer s H E PX hr tk hp => ⟨_, (sd_one (sd_ret (pd_add (pd_call d_whole_curve tk hr (by rfl) (da_cons (vr 0) da_nil)) (pd_tup (da_cons (vr 1) da_nil)))))⟩) ?_
  rintro ds μ P PX ⟨u, s, n, rfl, hu, hz, hn, h⟩
  (try simp only [↓r_wm1, ↓r_wm2, ↓r_wm3, ↓r_wm4, ↓r_forT, ↓r_forI, ↓r_fU0, ↓r_fU1, ↓r_turn, ↓r_yes, ↓r_ofrz, ↓r_oown, ↓r_w0, ↓r_w1, ↓r_w2, ↓r_w3, ↓r_w4, ↓r_lcT, ↓r_lcI, ↓r_lcR, ↓r_cU0, ↓r_cU1, ↓r_s0, ↓r_n0, ↓r_s1, ↓r_n1, ↓r_s2, ↓r_n2, ↓r_s3, ↓r_n3, ↓r_s4, ↓r_n4, ↓r_s5, ↓r_n5, ↓r_s6, ↓r_n6, ↓r_s7, ↓r_n7, ↓r_s8, ↓r_n8, ↓r_s9, ↓r_n9, ↓r_s10, ↓r_n10, ↓r_s11, ↓r_n11, ↓r_s12, ↓r_n12, ↓r_s13, ↓r_n13, ↓r_s14, ↓r_n14, ↓r_s15, ↓r_n15, ↓r_s16, ↓r_n16, ↓r_s17, ↓r_n17, ↓r_s18, ↓r_n18, ↓r_s19, ↓r_n19, ↓r_s20, ↓r_n20, ↓r_s21, ↓r_n21, ↓r_s22, ↓r_n22, ↓r_s23, ↓r_n23, ↓r_s24, ↓r_n24, ↓r_s25, ↓r_n25, ↓r_fr0, ↓r_fr1, ↓r_frL, ↓r_frN, ↓r_frNN, ↓r_max3, ↓r_seq, ↓r_next, ↓r_var0, ↓r_varS, ↓r_c, ↓r_op, ↓r_addI, ↓r_addS, ↓r_addT, ↓r_addL, ↓r_sub, ↓r_mul, ↓r_div, ↓r_mod, ↓r_pow, ↓r_lt, ↓r_le, ↓r_gt, ↓r_ge, ↓r_eqI, ↓r_neI, ↓r_isN, ↓r_isT, ↓r_isI, ↓r_isR, ↓r_inN, ↓r_inT, ↓r_inI, ↓r_ixT, ↓r_ixLs, ↓r_ixRo, ↓r_ixP, ↓r_at0, ↓r_at1, ↓r_at2, ↓r_at3, ↓r_neg, ↓r_negC, ↓r_b, ↓r_bl, ↓r_and, ↓r_or, ↓r_not, ↓r_andV, ↓r_orV, ↓r_notV, ↓r_bl', ↓r_if, ↓r_ifS, ↓r_asg, ↓r_name, ↓r_jnil, ↓r_jcons, ↓r_jtup, ↓r_jlst, ↓r_jlstP, ↓r_jsub, ↓r_jcut, ↓r_jcutP, ↓r_jcutA, ↓r_in2, ↓r_stP, ↓r_st0, ↓r_st1, ↓r_st2, ↓r_par, ↓r_ret, ↓r_retN, ↓r_drop, ↓r_brk, ↓r_cont, ↓r_raise, ↓r_nil, ↓r_cons, ↓r_tup, ↓r_lst, ↓r_new, ↓r_frz, ↓r_frzP, ↓r_cb, ↓r_call, ↓r_abs, ↓r_max, ↓r_min, ↓r_intI, ↓r_intB, ↓r_lenT, ↓r_lenL, ↓r_lenR, ↓r_lenP, ↓r_listL, ↓r_listR, ↓r_listOL, ↓r_tupleL, ↓r_tupleP, ↓r_isiII, ↓r_isiIB, ↓r_isiBI, ↓r_isiBB, ↓r_isiTT, ↓r_isiLL, ↓r_app, ↓r_appP, ↓r_clr, ↓r_clrP, ↓r_lstP, ↓r_cut, ↓r_onone, ↓r_osome, ↓r_int', ↓r_cutT, ↓r_cutLs, ↓r_cutP, ↓r_range1, ↓r_rg1, ↓rs0, ↓rsS, ↓ite_dec, ↓ite_ndec, ↓put_put, startD, List.length_cons, List.length_nil, and_assoc, and_true, true_and, and_self, or_self, or_false, false_or, or_true, true_or, decide_eq_true_eq, decide_true, decide_false, Bool.not_true, Bool.not_false, Bool.false_eq_true, if_true, if_false, ↓reduceIte, ne_eq, Nat.reduceLeDiff, Nat.reduceAdd, not_false_eq_true, not_true_eq_false, reduceCtorEq, Option.some.injEq, Int.reduceToNat, Int.reducePow, Int.reduceAdd, Int.reduceMul, Int.reduceSub, Int.reduceNeg, Int.reduceEq, List.nil_append, List.cons_append, ↓r_keep, ↓r_isExc, ↓r_indexM, ↓r_lstL, ↓r_eqF, ↓r_neF, ↓r_eqM, ↓r_neM, ↓r_isiFr, ↓r_eqB, ↓r_neB, beq_self_eq_true, ↓r_cutO, ↓r_cutOL, ↓r_cutOP])
  refine ⟨u, n, rfl, hu, hz, hn, ?_⟩
  unfold T3.d
  (try simp only [↓r_wm1, ↓r_wm2, ↓r_wm3, ↓r_wm4, ↓r_forT, ↓r_forI, ↓r_fU0, ↓r_fU1, ↓r_turn, ↓r_yes, ↓r_ofrz, ↓r_oown, ↓r_w0, ↓r_w1, ↓r_w2, ↓r_w3, ↓r_w4, ↓r_lcT, ↓r_lcI, ↓r_lcR, ↓r_cU0, ↓r_cU1, ↓r_s0, ↓r_n0, ↓r_s1, ↓r_n1, ↓r_s2, ↓r_n2, ↓r_s3, ↓r_n3, ↓r_s4, ↓r_n4, ↓r_s5, ↓r_n5, ↓r_s6, ↓r_n6, ↓r_s7, ↓r_n7, ↓r_s8, ↓r_n8, ↓r_s9, ↓r_n9, ↓r_s10, ↓r_n10, ↓r_s11, ↓r_n11, ↓r_s12, ↓r_n12, ↓r_s13, ↓r_n13, ↓r_s14, ↓r_n14, ↓r_s15, ↓r_n15, ↓r_s16, ↓r_n16, ↓r_s17, ↓r_n17, ↓r_s18, ↓r_n18, ↓r_s19, ↓r_n19, ↓r_s20, ↓r_n20, ↓r_s21, ↓r_n21, ↓r_s22, ↓r_n22, ↓r_s23, ↓r_n23, ↓r_s24, ↓r_n24, ↓r_s25, ↓r_n25, ↓r_fr0, ↓r_fr1, ↓r_frL, ↓r_frN, ↓r_frNN, ↓r_max3, ↓r_seq, ↓r_next, ↓r_var0, ↓r_varS, ↓r_c, ↓r_op, ↓r_addI, ↓r_addS, ↓r_addT, ↓r_addL, ↓r_sub, ↓r_mul, ↓r_div, ↓r_mod, ↓r_pow, ↓r_lt, ↓r_le, ↓r_gt, ↓r_ge, ↓r_eqI, ↓r_neI, ↓r_isN, ↓r_isT, ↓r_isI, ↓r_isR, ↓r_inN, ↓r_inT, ↓r_inI, ↓r_ixT, ↓r_ixLs, ↓r_ixRo, ↓r_ixP, ↓r_at0, ↓r_at1, ↓r_at2, ↓r_at3, ↓r_neg, ↓r_negC, ↓r_b, ↓r_bl, ↓r_and, ↓r_or, ↓r_not, ↓r_andV, ↓r_orV, ↓r_notV, ↓r_bl', ↓r_if, ↓r_ifS, ↓r_asg, ↓r_name, ↓r_jnil, ↓r_jcons, ↓r_jtup, ↓r_jlst, ↓r_jlstP, ↓r_jsub, ↓r_jcut, ↓r_jcutP, ↓r_jcutA, ↓r_in2, ↓r_stP, ↓r_st0, ↓r_st1, ↓r_st2, ↓r_par, ↓r_ret, ↓r_retN, ↓r_drop, ↓r_brk, ↓r_cont, ↓r_raise, ↓r_nil, ↓r_cons, ↓r_tup, ↓r_lst, ↓r_new, ↓r_frz, ↓r_frzP, ↓r_cb, ↓r_call, ↓r_abs, ↓r_max, ↓r_min, ↓r_intI, ↓r_intB, ↓r_lenT, ↓r_lenL, ↓r_lenR, ↓r_lenP, ↓r_listL, ↓r_listR, ↓r_listOL, ↓r_tupleL, ↓r_tupleP, ↓r_isiII, ↓r_isiIB, ↓r_isiBI, ↓r_isiBB, ↓r_isiTT, ↓r_isiLL, ↓r_app, ↓r_appP, ↓r_clr, ↓r_clrP, ↓r_lstP, ↓r_cut, ↓r_onone, ↓r_osome, ↓r_int', ↓r_cutT, ↓r_cutLs, ↓r_cutP, ↓r_range1, ↓r_rg1, ↓rs0, ↓rsS, ↓ite_dec, ↓ite_ndec, ↓put_put, startD, List.length_cons, List.length_nil, and_assoc, and_true, true_and, and_self, or_self, or_false, false_or, or_true, true_or, decide_eq_true_eq, decide_true, decide_false, Bool.not_true, Bool.not_false, Bool.false_eq_true, if_true, if_false, ↓reduceIte, ne_eq, Nat.reduceLeDiff, Nat.reduceAdd, not_false_eq_true, not_true_eq_false, reduceCtorEq, Option.some.injEq, Int.reduceToNat, Int.reducePow, Int.reduceAdd, Int.reduceMul, Int.reduceSub, Int.reduceNeg, Int.reduceEq, List.nil_append, List.cons_append, ↓r_keep, ↓r_isExc, ↓r_indexM, ↓r_lstL, ↓r_eqF, ↓r_neF, ↓r_eqM, ↓r_neM, ↓r_isiFr, ↓r_eqB, ↓r_neB, beq_self_eq_true, ↓r_cutO, ↓r_cutOL, ↓r_cutOP])
  exact ⟨line1000 (by simp), h⟩
def pr__law_number : DSp := drawF 20 3
theorem len__law_number : ∀ ds μ P PX, pr__law_number ds μ P PX → ds.length = (["_law_purse_here"] : List Str).length := by
  rintro ds μ P PX ⟨p, m, rfl, _⟩
  rfl
theorem ok__law_number {P : Program} {w : World} {K : PySem.W.Frag} {mg : Str → Option Value} {base : Heap} {f : Addr} {fd : FuncData} (F : Fun K "_law_number" "_law_number" s__law_number f fd)
    (d__law_take : Df P w K mg base "_law_take" ["_law_purse_here", "_law_many"] 2 pr__law_take)
    (d__law_low : Df P w K mg base "_law_low" ["_law_top", "_law_bottom"] 1 pr__law_low) : FnOk P w K mg base (L2.CX P w) 3 f fd ["_law_purse_here"] (spD K pr__law_number) := by
  have nd := sc__law_number.nd
  refine fn_D (k := 2) F sc__law_number len__law_number (by decide) (fun cdv A outer s H E PX hr tk hp => ⟨_, (sd_cons (sd_set 1 nd (pd_call d__law_take tk hr (by rfl) (da_cons (vr 0) (da_cons pd_int da_nil))))
      (sd_cons (sd_if (pt_lt (vr 1) pd_int)
       (sd_one (sd_ret (pd_ix (pd_lst (da_cons (pd_tup (da_cons pd_int (da_cons pd_int da_nil))) (da_cons (pd_tup (da_cons pd_int (da_cons pd_int da_nil))) (da_cons (pd_tup (da_cons (pd_neg pd_int) (da_cons pd_int da_nil))) da_nil)))) (vr 1))))
       sd_nil)
      (sd_cons (sd_if (pt_lt (vr 1) pd_int)
       (sd_one (sd_ret (pd_call d__law_low tk hr (by rfl) (da_cons (pd_sub (pd_call d__law_take tk hr (by rfl) (da_cons (vr 0) (da_cons pd_int da_nil))) pd_int) (da_cons (pd_add pd_int (pd_mul (pd_call d__law_take tk hr (by rfl) (da_cons (vr 0) (da_cons pd_int da_nil))) (pd_sub (vr 1) pd_int))) da_nil)))))
       sd_nil)
      (sd_one (sd_ret (pd_call d__law_low tk hr (by rfl) (da_cons (pd_sub (pd_call d__law_take tk hr (by rfl) (da_cons (vr 0) (da_cons (pd_add (pd_mul pd_int (pd_pow pd_int pd_int)) pd_int) da_nil))) (pd_pow pd_int pd_int)) (da_cons (pd_add pd_int (pd_call d__law_take tk hr (by rfl) (da_cons (vr 0) (da_cons pd_int da_nil)))) da_nil))))))))⟩) ?_
  rintro ds μ P PX ⟨p, m, rfl, hp, hm, h⟩
  have c1 : PowC 10 5 := powC 4
  (try simp only [↓r_wm1, ↓r_wm2, ↓r_wm3, ↓r_wm4, ↓r_forT, ↓r_forI, ↓r_fU0, ↓r_fU1, ↓r_turn, ↓r_yes, ↓r_ofrz, ↓r_oown, ↓r_w0, ↓r_w1, ↓r_w2, ↓r_w3, ↓r_w4, ↓r_lcT, ↓r_lcI, ↓r_lcR, ↓r_cU0, ↓r_cU1, ↓r_s0, ↓r_n0, ↓r_s1, ↓r_n1, ↓r_s2, ↓r_n2, ↓r_s3, ↓r_n3, ↓r_s4, ↓r_n4, ↓r_s5, ↓r_n5, ↓r_s6, ↓r_n6, ↓r_s7, ↓r_n7, ↓r_s8, ↓r_n8, ↓r_s9, ↓r_n9, ↓r_s10, ↓r_n10, ↓r_s11, ↓r_n11, ↓r_s12, ↓r_n12, ↓r_s13, ↓r_n13, ↓r_s14, ↓r_n14, ↓r_s15, ↓r_n15, ↓r_s16, ↓r_n16, ↓r_s17, ↓r_n17, ↓r_s18, ↓r_n18, ↓r_s19, ↓r_n19, ↓r_s20, ↓r_n20, ↓r_s21, ↓r_n21, ↓r_s22, ↓r_n22, ↓r_s23, ↓r_n23, ↓r_s24, ↓r_n24, ↓r_s25, ↓r_n25, ↓r_fr0, ↓r_fr1, ↓r_frL, ↓r_frN, ↓r_frNN, ↓r_max3, ↓r_seq, ↓r_next, ↓r_var0, ↓r_varS, ↓r_c, ↓r_op, ↓r_addI, ↓r_addS, ↓r_addT, ↓r_addL, ↓r_sub, ↓r_mul, ↓r_div, ↓r_mod, ↓r_pow, ↓r_lt, ↓r_le, ↓r_gt, ↓r_ge, ↓r_eqI, ↓r_neI, ↓r_isN, ↓r_isT, ↓r_isI, ↓r_isR, ↓r_inN, ↓r_inT, ↓r_inI, ↓r_ixT, ↓r_ixLs, ↓r_ixRo, ↓r_ixP, ↓r_at0, ↓r_at1, ↓r_at2, ↓r_at3, ↓r_neg, ↓r_negC, ↓r_b, ↓r_bl, ↓r_and, ↓r_or, ↓r_not, ↓r_andV, ↓r_orV, ↓r_notV, ↓r_bl', ↓r_if, ↓r_ifS, ↓r_asg, ↓r_name, ↓r_jnil, ↓r_jcons, ↓r_jtup, ↓r_jlst, ↓r_jlstP, ↓r_jsub, ↓r_jcut, ↓r_jcutP, ↓r_jcutA, ↓r_in2, ↓r_stP, ↓r_st0, ↓r_st1, ↓r_st2, ↓r_par, ↓r_ret, ↓r_retN, ↓r_drop, ↓r_brk, ↓r_cont, ↓r_raise, ↓r_nil, ↓r_cons, ↓r_tup, ↓r_lst, ↓r_new, ↓r_frz, ↓r_frzP, ↓r_cb, ↓r_call, ↓r_abs, ↓r_max, ↓r_min, ↓r_intI, ↓r_intB, ↓r_lenT, ↓r_lenL, ↓r_lenR, ↓r_lenP, ↓r_listL, ↓r_listR, ↓r_listOL, ↓r_tupleL, ↓r_tupleP, ↓r_isiII, ↓r_isiIB, ↓r_isiBI, ↓r_isiBB, ↓r_isiTT, ↓r_isiLL, ↓r_app, ↓r_appP, ↓r_clr, ↓r_clrP, ↓r_lstP, ↓r_cut, ↓r_onone, ↓r_osome, ↓r_int', ↓r_cutT, ↓r_cutLs, ↓r_cutP, ↓r_range1, ↓r_rg1, ↓rs0, ↓rsS, ↓ite_dec, ↓ite_ndec, ↓put_put, startD, List.length_cons, List.length_nil, and_assoc, and_true, true_and, and_self, or_self, or_false, false_or, or_true, true_or, decide_eq_true_eq, decide_true, decide_false, Bool.not_true, Bool.not_false, Bool.false_eq_true, if_true, if_false, ↓reduceIte, ne_eq, Nat.reduceLeDiff, Nat.reduceAdd, not_false_eq_true, not_true_eq_false, reduceCtorEq, Option.some.injEq, Int.reduceToNat, Int.reducePow, Int.reduceAdd, Int.reduceMul, Int.reduceSub, Int.reduceNeg, Int.reduceEq, List.nil_append, List.cons_append, ↓r_keep, ↓r_isExc, ↓r_indexM, ↓r_lstL, ↓r_eqF, ↓r_neF, ↓r_eqM, ↓r_neM, ↓r_isiFr, ↓r_eqB, ↓r_neB, beq_self_eq_true, ↓r_cutO, ↓r_cutOL, ↓r_cutOP])
  refine ⟨p, 6, m, rfl, hp, by omega, by decide, by decide, fun r d1 r0 r1 h1 => ?_⟩
  (try simp only [↓r_wm1, ↓r_wm2, ↓r_wm3, ↓r_wm4, ↓r_forT, ↓r_forI, ↓r_fU0, ↓r_fU1, ↓r_turn, ↓r_yes, ↓r_ofrz, ↓r_oown, ↓r_w0, ↓r_w1, ↓r_w2, ↓r_w3, ↓r_w4, ↓r_lcT, ↓r_lcI, ↓r_lcR, ↓r_cU0, ↓r_cU1, ↓r_s0, ↓r_n0, ↓r_s1, ↓r_n1, ↓r_s2, ↓r_n2, ↓r_s3, ↓r_n3, ↓r_s4, ↓r_n4, ↓r_s5, ↓r_n5, ↓r_s6, ↓r_n6, ↓r_s7, ↓r_n7, ↓r_s8, ↓r_n8, ↓r_s9, ↓r_n9, ↓r_s10, ↓r_n10, ↓r_s11, ↓r_n11, ↓r_s12, ↓r_n12, ↓r_s13, ↓r_n13, ↓r_s14, ↓r_n14, ↓r_s15, ↓r_n15, ↓r_s16, ↓r_n16, ↓r_s17, ↓r_n17, ↓r_s18, ↓r_n18, ↓r_s19, ↓r_n19, ↓r_s20, ↓r_n20, ↓r_s21, ↓r_n21, ↓r_s22, ↓r_n22, ↓r_s23, ↓r_n23, ↓r_s24, ↓r_n24, ↓r_s25, ↓r_n25, ↓r_fr0, ↓r_fr1, ↓r_frL, ↓r_frN, ↓r_frNN, ↓r_max3, ↓r_seq, ↓r_next, ↓r_var0, ↓r_varS, ↓r_c, ↓r_op, ↓r_addI, ↓r_addS, ↓r_addT, ↓r_addL, ↓r_sub, ↓r_mul, ↓r_div, ↓r_mod, ↓r_pow, ↓r_lt, ↓r_le, ↓r_gt, ↓r_ge, ↓r_eqI, ↓r_neI, ↓r_isN, ↓r_isT, ↓r_isI, ↓r_isR, ↓r_inN, ↓r_inT, ↓r_inI, ↓r_ixT, ↓r_ixLs, ↓r_ixRo, ↓r_ixP, ↓r_at0, ↓r_at1, ↓r_at2, ↓r_at3, ↓r_neg, ↓r_negC, ↓r_b, ↓r_bl, ↓r_and, ↓r_or, ↓r_not, ↓r_andV, ↓r_orV, ↓r_notV, ↓r_bl', ↓r_if, ↓r_ifS, ↓r_asg, ↓r_name, ↓r_jnil, ↓r_jcons, ↓r_jtup, ↓r_jlst, ↓r_jlstP, ↓r_jsub, ↓r_jcut, ↓r_jcutP, ↓r_jcutA, ↓r_in2, ↓r_stP, ↓r_st0, ↓r_st1, ↓r_st2, ↓r_par, ↓r_ret, ↓r_retN, ↓r_drop, ↓r_brk, ↓r_cont, ↓r_raise, ↓r_nil, ↓r_cons, ↓r_tup, ↓r_lst, ↓r_new, ↓r_frz, ↓r_frzP, ↓r_cb, ↓r_call, ↓r_abs, ↓r_max, ↓r_min, ↓r_intI, ↓r_intB, ↓r_lenT, ↓r_lenL, ↓r_lenR, ↓r_lenP, ↓r_listL, ↓r_listR, ↓r_listOL, ↓r_tupleL, ↓r_tupleP, ↓r_isiII, ↓r_isiIB, ↓r_isiBI, ↓r_isiBB, ↓r_isiTT, ↓r_isiLL, ↓r_app, ↓r_appP, ↓r_clr, ↓r_clrP, ↓r_lstP, ↓r_cut, ↓r_onone, ↓r_osome, ↓r_int', ↓r_cutT, ↓r_cutLs, ↓r_cutP, ↓r_range1, ↓r_rg1, ↓rs0, ↓rsS, ↓ite_dec, ↓ite_ndec, ↓put_put, startD, List.length_cons, List.length_nil, and_assoc, and_true, true_and, and_self, or_self, or_false, false_or, or_true, true_or, decide_eq_true_eq, decide_true, decide_false, Bool.not_true, Bool.not_false, Bool.false_eq_true, if_true, if_false, ↓reduceIte, ne_eq, Nat.reduceLeDiff, Nat.reduceAdd, not_false_eq_true, not_true_eq_false, reduceCtorEq, Option.some.injEq, Int.reduceToNat, Int.reducePow, Int.reduceAdd, Int.reduceMul, Int.reduceSub, Int.reduceNeg, Int.reduceEq, List.nil_append, List.cons_append, ↓r_keep, ↓r_isExc, ↓r_indexM, ↓r_lstL, ↓r_eqF, ↓r_neF, ↓r_eqM, ↓r_neM, ↓r_isiFr, ↓r_eqB, ↓r_neB, beq_self_eq_true, ↓r_cutO, ↓r_cutOL, ↓r_cutOP, c1])
  split
  · refine ixL_all r0 (by simp; omega) fun d hd => ?_
    have hp1 := h1.mono (n := m + 3) (by omega)
    simp only [List.mem_cons, List.not_mem_nil, or_false] at hd
    rcases hd with rfl | rfl | rfl
    · exact h (0, 1) d1 fr01 ⟨by decide, by decide⟩ hp1
    · exact h (1, 1) d1 fr11 ⟨by decide, by decide⟩ hp1
    · exact h (-1, 1) d1 (fr_int _) ⟨by decide, by decide⟩ hp1
  · split
    · refine ⟨p, 13, _, rfl, h1, by omega, by decide, by decide, fun s d2 s0 s1 h2 => ?_⟩
      (try simp only [↓r_wm1, ↓r_wm2, ↓r_wm3, ↓r_wm4, ↓r_forT, ↓r_forI, ↓r_fU0, ↓r_fU1, ↓r_turn, ↓r_yes, ↓r_ofrz, ↓r_oown, ↓r_w0, ↓r_w1, ↓r_w2, ↓r_w3, ↓r_w4, ↓r_lcT, ↓r_lcI, ↓r_lcR, ↓r_cU0, ↓r_cU1, ↓r_s0, ↓r_n0, ↓r_s1, ↓r_n1, ↓r_s2, ↓r_n2, ↓r_s3, ↓r_n3, ↓r_s4, ↓r_n4, ↓r_s5, ↓r_n5, ↓r_s6, ↓r_n6, ↓r_s7, ↓r_n7, ↓r_s8, ↓r_n8, ↓r_s9, ↓r_n9, ↓r_s10, ↓r_n10, ↓r_s11, ↓r_n11, ↓r_s12, ↓r_n12, ↓r_s13, ↓r_n13, ↓r_s14, ↓r_n14, ↓r_s15, ↓r_n15, ↓r_s16, ↓r_n16, ↓r_s17, ↓r_n17, ↓r_s18, ↓r_n18, ↓r_s19, ↓r_n19, ↓r_s20, ↓r_n20, ↓r_s21, ↓r_n21, ↓r_s22, ↓r_n22, ↓r_s23, ↓r_n23, ↓r_s24, ↓r_n24, ↓r_s25, ↓r_n25, ↓r_fr0, ↓r_fr1, ↓r_frL, ↓r_frN, ↓r_frNN, ↓r_max3, ↓r_seq, ↓r_next, ↓r_var0, ↓r_varS, ↓r_c, ↓r_op, ↓r_addI, ↓r_addS, ↓r_addT, ↓r_addL, ↓r_sub, ↓r_mul, ↓r_div, ↓r_mod, ↓r_pow, ↓r_lt, ↓r_le, ↓r_gt, ↓r_ge, ↓r_eqI, ↓r_neI, ↓r_isN, ↓r_isT, ↓r_isI, ↓r_isR, ↓r_inN, ↓r_inT, ↓r_inI, ↓r_ixT, ↓r_ixLs, ↓r_ixRo, ↓r_ixP, ↓r_at0, ↓r_at1, ↓r_at2, ↓r_at3, ↓r_neg, ↓r_negC, ↓r_b, ↓r_bl, ↓r_and, ↓r_or, ↓r_not, ↓r_andV, ↓r_orV, ↓r_notV, ↓r_bl', ↓r_if, ↓r_ifS, ↓r_asg, ↓r_name, ↓r_jnil, ↓r_jcons, ↓r_jtup, ↓r_jlst, ↓r_jlstP, ↓r_jsub, ↓r_jcut, ↓r_jcutP, ↓r_jcutA, ↓r_in2, ↓r_stP, ↓r_st0, ↓r_st1, ↓r_st2, ↓r_par, ↓r_ret, ↓r_retN, ↓r_drop, ↓r_brk, ↓r_cont, ↓r_raise, ↓r_nil, ↓r_cons, ↓r_tup, ↓r_lst, ↓r_new, ↓r_frz, ↓r_frzP, ↓r_cb, ↓r_call, ↓r_abs, ↓r_max, ↓r_min, ↓r_intI, ↓r_intB, ↓r_lenT, ↓r_lenL, ↓r_lenR, ↓r_lenP, ↓r_listL, ↓r_listR, ↓r_listOL, ↓r_tupleL, ↓r_tupleP, ↓r_isiII, ↓r_isiIB, ↓r_isiBI, ↓r_isiBB, ↓r_isiTT, ↓r_isiLL, ↓r_app, ↓r_appP, ↓r_clr, ↓r_clrP, ↓r_lstP, ↓r_cut, ↓r_onone, ↓r_osome, ↓r_int', ↓r_cutT, ↓r_cutLs, ↓r_cutP, ↓r_range1, ↓r_rg1, ↓rs0, ↓rsS, ↓ite_dec, ↓ite_ndec, ↓put_put, startD, List.length_cons, List.length_nil, and_assoc, and_true, true_and, and_self, or_self, or_false, false_or, or_true, true_or, decide_eq_true_eq, decide_true, decide_false, Bool.not_true, Bool.not_false, Bool.false_eq_true, if_true, if_false, ↓reduceIte, ne_eq, Nat.reduceLeDiff, Nat.reduceAdd, not_false_eq_true, not_true_eq_false, reduceCtorEq, Option.some.injEq, Int.reduceToNat, Int.reducePow, Int.reduceAdd, Int.reduceMul, Int.reduceSub, Int.reduceNeg, Int.reduceEq, List.nil_append, List.cons_append, ↓r_keep, ↓r_isExc, ↓r_indexM, ↓r_lstL, ↓r_eqF, ↓r_neF, ↓r_eqM, ↓r_neM, ↓r_isiFr, ↓r_eqB, ↓r_neB, beq_self_eq_true, ↓r_cutO, ↓r_cutOL, ↓r_cutOP])
      refine ⟨p, 4, _, rfl, h2.put, by omega, by decide, by decide, fun t d3 t0 t1 h3 => ?_⟩
      have hr : r = 3 ∨ r = 4 := by omega
      have bt : Bd 3 t := Bd.rng t0 t1 (by decide)
      rcases hr with rfl | rfl
      all_goals
        (try simp only [↓r_wm1, ↓r_wm2, ↓r_wm3, ↓r_wm4, ↓r_forT, ↓r_forI, ↓r_fU0, ↓r_fU1, ↓r_turn, ↓r_yes, ↓r_ofrz, ↓r_oown, ↓r_w0, ↓r_w1, ↓r_w2, ↓r_w3, ↓r_w4, ↓r_lcT, ↓r_lcI, ↓r_lcR, ↓r_cU0, ↓r_cU1, ↓r_s0, ↓r_n0, ↓r_s1, ↓r_n1, ↓r_s2, ↓r_n2, ↓r_s3, ↓r_n3, ↓r_s4, ↓r_n4, ↓r_s5, ↓r_n5, ↓r_s6, ↓r_n6, ↓r_s7, ↓r_n7, ↓r_s8, ↓r_n8, ↓r_s9, ↓r_n9, ↓r_s10, ↓r_n10, ↓r_s11, ↓r_n11, ↓r_s12, ↓r_n12, ↓r_s13, ↓r_n13, ↓r_s14, ↓r_n14, ↓r_s15, ↓r_n15, ↓r_s16, ↓r_n16, ↓r_s17, ↓r_n17, ↓r_s18, ↓r_n18, ↓r_s19, ↓r_n19, ↓r_s20, ↓r_n20, ↓r_s21, ↓r_n21, ↓r_s22, ↓r_n22, ↓r_s23, ↓r_n23, ↓r_s24, ↓r_n24, ↓r_s25, ↓r_n25, ↓r_fr0, ↓r_fr1, ↓r_frL, ↓r_frN, ↓r_frNN, ↓r_max3, ↓r_seq, ↓r_next, ↓r_var0, ↓r_varS, ↓r_c, ↓r_op, ↓r_addI, ↓r_addS, ↓r_addT, ↓r_addL, ↓r_sub, ↓r_mul, ↓r_div, ↓r_mod, ↓r_pow, ↓r_lt, ↓r_le, ↓r_gt, ↓r_ge, ↓r_eqI, ↓r_neI, ↓r_isN, ↓r_isT, ↓r_isI, ↓r_isR, ↓r_inN, ↓r_inT, ↓r_inI, ↓r_ixT, ↓r_ixLs, ↓r_ixRo, ↓r_ixP, ↓r_at0, ↓r_at1, ↓r_at2, ↓r_at3, ↓r_neg, ↓r_negC, ↓r_b, ↓r_bl, ↓r_and, ↓r_or, ↓r_not, ↓r_andV, ↓r_orV, ↓r_notV, ↓r_bl', ↓r_if, ↓r_ifS, ↓r_asg, ↓r_name, ↓r_jnil, ↓r_jcons, ↓r_jtup, ↓r_jlst, ↓r_jlstP, ↓r_jsub, ↓r_jcut, ↓r_jcutP, ↓r_jcutA, ↓r_in2, ↓r_stP, ↓r_st0, ↓r_st1, ↓r_st2, ↓r_par, ↓r_ret, ↓r_retN, ↓r_drop, ↓r_brk, ↓r_cont, ↓r_raise, ↓r_nil, ↓r_cons, ↓r_tup, ↓r_lst, ↓r_new, ↓r_frz, ↓r_frzP, ↓r_cb, ↓r_call, ↓r_abs, ↓r_max, ↓r_min, ↓r_intI, ↓r_intB, ↓r_lenT, ↓r_lenL, ↓r_lenR, ↓r_lenP, ↓r_listL, ↓r_listR, ↓r_listOL, ↓r_tupleL, ↓r_tupleP, ↓r_isiII, ↓r_isiIB, ↓r_isiBI, ↓r_isiBB, ↓r_isiTT, ↓r_isiLL, ↓r_app, ↓r_appP, ↓r_clr, ↓r_clrP, ↓r_lstP, ↓r_cut, ↓r_onone, ↓r_osome, ↓r_int', ↓r_cutT, ↓r_cutLs, ↓r_cutP, ↓r_range1, ↓r_rg1, ↓rs0, ↓rsS, ↓ite_dec, ↓ite_ndec, ↓put_put, startD, List.length_cons, List.length_nil, and_assoc, and_true, true_and, and_self, or_self, or_false, false_or, or_true, true_or, decide_eq_true_eq, decide_true, decide_false, Bool.not_true, Bool.not_false, Bool.false_eq_true, if_true, if_false, ↓reduceIte, ne_eq, Nat.reduceLeDiff, Nat.reduceAdd, not_false_eq_true, not_true_eq_false, reduceCtorEq, Option.some.injEq, Int.reduceToNat, Int.reducePow, Int.reduceAdd, Int.reduceMul, Int.reduceSub, Int.reduceNeg, Int.reduceEq, List.nil_append, List.cons_append, ↓r_keep, ↓r_isExc, ↓r_indexM, ↓r_lstL, ↓r_eqF, ↓r_neF, ↓r_eqM, ↓r_neM, ↓r_isiFr, ↓r_eqB, ↓r_neB, beq_self_eq_true, ↓r_cutO, ↓r_cutOL, ↓r_cutOP])
        refine ⟨mulC (n := 3) bt (by decide), _, _, rfl, by omega, Bd.two (by omega) (by omega) |>.mono (m := 10) (by decide), ?_⟩
        exact h _ d3 (low_can (by omega)) (low_fb (by omega) (Bd.two (by omega) (by omega)) (Bd.two (by omega) (by omega))) h3.put
    · refine ⟨mulC (m := 3) (n := 20) (by decide) (by decide), p, _, _, rfl, h1, by omega, by decide, by decide, fun s d2 s0 s1 h2 => ?_⟩
      (try simp only [↓r_wm1, ↓r_wm2, ↓r_wm3, ↓r_wm4, ↓r_forT, ↓r_forI, ↓r_fU0, ↓r_fU1, ↓r_turn, ↓r_yes, ↓r_ofrz, ↓r_oown, ↓r_w0, ↓r_w1, ↓r_w2, ↓r_w3, ↓r_w4, ↓r_lcT, ↓r_lcI, ↓r_lcR, ↓r_cU0, ↓r_cU1, ↓r_s0, ↓r_n0, ↓r_s1, ↓r_n1, ↓r_s2, ↓r_n2, ↓r_s3, ↓r_n3, ↓r_s4, ↓r_n4, ↓r_s5, ↓r_n5, ↓r_s6, ↓r_n6, ↓r_s7, ↓r_n7, ↓r_s8, ↓r_n8, ↓r_s9, ↓r_n9, ↓r_s10, ↓r_n10, ↓r_s11, ↓r_n11, ↓r_s12, ↓r_n12, ↓r_s13, ↓r_n13, ↓r_s14, ↓r_n14, ↓r_s15, ↓r_n15, ↓r_s16, ↓r_n16, ↓r_s17, ↓r_n17, ↓r_s18, ↓r_n18, ↓r_s19, ↓r_n19, ↓r_s20, ↓r_n20, ↓r_s21, ↓r_n21, ↓r_s22, ↓r_n22, ↓r_s23, ↓r_n23, ↓r_s24, ↓r_n24, ↓r_s25, ↓r_n25, ↓r_fr0, ↓r_fr1, ↓r_frL, ↓r_frN, ↓r_frNN, ↓r_max3, ↓r_seq, ↓r_next, ↓r_var0, ↓r_varS, ↓r_c, ↓r_op, ↓r_addI, ↓r_addS, ↓r_addT, ↓r_addL, ↓r_sub, ↓r_mul, ↓r_div, ↓r_mod, ↓r_pow, ↓r_lt, ↓r_le, ↓r_gt, ↓r_ge, ↓r_eqI, ↓r_neI, ↓r_isN, ↓r_isT, ↓r_isI, ↓r_isR, ↓r_inN, ↓r_inT, ↓r_inI, ↓r_ixT, ↓r_ixLs, ↓r_ixRo, ↓r_ixP, ↓r_at0, ↓r_at1, ↓r_at2, ↓r_at3, ↓r_neg, ↓r_negC, ↓r_b, ↓r_bl, ↓r_and, ↓r_or, ↓r_not, ↓r_andV, ↓r_orV, ↓r_notV, ↓r_bl', ↓r_if, ↓r_ifS, ↓r_asg, ↓r_name, ↓r_jnil, ↓r_jcons, ↓r_jtup, ↓r_jlst, ↓r_jlstP, ↓r_jsub, ↓r_jcut, ↓r_jcutP, ↓r_jcutA, ↓r_in2, ↓r_stP, ↓r_st0, ↓r_st1, ↓r_st2, ↓r_par, ↓r_ret, ↓r_retN, ↓r_drop, ↓r_brk, ↓r_cont, ↓r_raise, ↓r_nil, ↓r_cons, ↓r_tup, ↓r_lst, ↓r_new, ↓r_frz, ↓r_frzP, ↓r_cb, ↓r_call, ↓r_abs, ↓r_max, ↓r_min, ↓r_intI, ↓r_intB, ↓r_lenT, ↓r_lenL, ↓r_lenR, ↓r_lenP, ↓r_listL, ↓r_listR, ↓r_listOL, ↓r_tupleL, ↓r_tupleP, ↓r_isiII, ↓r_isiIB, ↓r_isiBI, ↓r_isiBB, ↓r_isiTT, ↓r_isiLL, ↓r_app, ↓r_appP, ↓r_clr, ↓r_clrP, ↓r_lstP, ↓r_cut, ↓r_onone, ↓r_osome, ↓r_int', ↓r_cutT, ↓r_cutLs, ↓r_cutP, ↓r_range1, ↓r_rg1, ↓rs0, ↓rsS, ↓ite_dec, ↓ite_ndec, ↓put_put, startD, List.length_cons, List.length_nil, and_assoc, and_true, true_and, and_self, or_self, or_false, false_or, or_true, true_or, decide_eq_true_eq, decide_true, decide_false, Bool.not_true, Bool.not_false, Bool.false_eq_true, if_true, if_false, ↓reduceIte, ne_eq, Nat.reduceLeDiff, Nat.reduceAdd, not_false_eq_true, not_true_eq_false, reduceCtorEq, Option.some.injEq, Int.reduceToNat, Int.reducePow, Int.reduceAdd, Int.reduceMul, Int.reduceSub, Int.reduceNeg, Int.reduceEq, List.nil_append, List.cons_append, ↓r_keep, ↓r_isExc, ↓r_indexM, ↓r_lstL, ↓r_eqF, ↓r_neF, ↓r_eqM, ↓r_neM, ↓r_isiFr, ↓r_eqB, ↓r_neB, beq_self_eq_true, ↓r_cutO, ↓r_cutOL, ↓r_cutOP, c1])
      refine ⟨p, 300, _, rfl, h2.put, by omega, by decide, by decide, fun t d3 t0 t1 h3 => ?_⟩
      (try simp only [↓r_wm1, ↓r_wm2, ↓r_wm3, ↓r_wm4, ↓r_forT, ↓r_forI, ↓r_fU0, ↓r_fU1, ↓r_turn, ↓r_yes, ↓r_ofrz, ↓r_oown, ↓r_w0, ↓r_w1, ↓r_w2, ↓r_w3, ↓r_w4, ↓r_lcT, ↓r_lcI, ↓r_lcR, ↓r_cU0, ↓r_cU1, ↓r_s0, ↓r_n0, ↓r_s1, ↓r_n1, ↓r_s2, ↓r_n2, ↓r_s3, ↓r_n3, ↓r_s4, ↓r_n4, ↓r_s5, ↓r_n5, ↓r_s6, ↓r_n6, ↓r_s7, ↓r_n7, ↓r_s8, ↓r_n8, ↓r_s9, ↓r_n9, ↓r_s10, ↓r_n10, ↓r_s11, ↓r_n11, ↓r_s12, ↓r_n12, ↓r_s13, ↓r_n13, ↓r_s14, ↓r_n14, ↓r_s15, ↓r_n15, ↓r_s16, ↓r_n16, ↓r_s17, ↓r_n17, ↓r_s18, ↓r_n18, ↓r_s19, ↓r_n19, ↓r_s20, ↓r_n20, ↓r_s21, ↓r_n21, ↓r_s22, ↓r_n22, ↓r_s23, ↓r_n23, ↓r_s24, ↓r_n24, ↓r_s25, ↓r_n25, ↓r_fr0, ↓r_fr1, ↓r_frL, ↓r_frN, ↓r_frNN, ↓r_max3, ↓r_seq, ↓r_next, ↓r_var0, ↓r_varS, ↓r_c, ↓r_op, ↓r_addI, ↓r_addS, ↓r_addT, ↓r_addL, ↓r_sub, ↓r_mul, ↓r_div, ↓r_mod, ↓r_pow, ↓r_lt, ↓r_le, ↓r_gt, ↓r_ge, ↓r_eqI, ↓r_neI, ↓r_isN, ↓r_isT, ↓r_isI, ↓r_isR, ↓r_inN, ↓r_inT, ↓r_inI, ↓r_ixT, ↓r_ixLs, ↓r_ixRo, ↓r_ixP, ↓r_at0, ↓r_at1, ↓r_at2, ↓r_at3, ↓r_neg, ↓r_negC, ↓r_b, ↓r_bl, ↓r_and, ↓r_or, ↓r_not, ↓r_andV, ↓r_orV, ↓r_notV, ↓r_bl', ↓r_if, ↓r_ifS, ↓r_asg, ↓r_name, ↓r_jnil, ↓r_jcons, ↓r_jtup, ↓r_jlst, ↓r_jlstP, ↓r_jsub, ↓r_jcut, ↓r_jcutP, ↓r_jcutA, ↓r_in2, ↓r_stP, ↓r_st0, ↓r_st1, ↓r_st2, ↓r_par, ↓r_ret, ↓r_retN, ↓r_drop, ↓r_brk, ↓r_cont, ↓r_raise, ↓r_nil, ↓r_cons, ↓r_tup, ↓r_lst, ↓r_new, ↓r_frz, ↓r_frzP, ↓r_cb, ↓r_call, ↓r_abs, ↓r_max, ↓r_min, ↓r_intI, ↓r_intB, ↓r_lenT, ↓r_lenL, ↓r_lenR, ↓r_lenP, ↓r_listL, ↓r_listR, ↓r_listOL, ↓r_tupleL, ↓r_tupleP, ↓r_isiII, ↓r_isiIB, ↓r_isiBI, ↓r_isiBB, ↓r_isiTT, ↓r_isiLL, ↓r_app, ↓r_appP, ↓r_clr, ↓r_clrP, ↓r_lstP, ↓r_cut, ↓r_onone, ↓r_osome, ↓r_int', ↓r_cutT, ↓r_cutLs, ↓r_cutP, ↓r_range1, ↓r_rg1, ↓rs0, ↓rsS, ↓ite_dec, ↓ite_ndec, ↓put_put, startD, List.length_cons, List.length_nil, and_assoc, and_true, true_and, and_self, or_self, or_false, false_or, or_true, true_or, decide_eq_true_eq, decide_true, decide_false, Bool.not_true, Bool.not_false, Bool.false_eq_true, if_true, if_false, ↓reduceIte, ne_eq, Nat.reduceLeDiff, Nat.reduceAdd, not_false_eq_true, not_true_eq_false, reduceCtorEq, Option.some.injEq, Int.reduceToNat, Int.reducePow, Int.reduceAdd, Int.reduceMul, Int.reduceSub, Int.reduceNeg, Int.reduceEq, List.nil_append, List.cons_append, ↓r_keep, ↓r_isExc, ↓r_indexM, ↓r_lstL, ↓r_eqF, ↓r_neF, ↓r_eqM, ↓r_neM, ↓r_isiFr, ↓r_eqB, ↓r_neB, beq_self_eq_true, ↓r_cutO, ↓r_cutOL, ↓r_cutOP])
      refine ⟨_, _, rfl, by omega, Bd.two (by omega) (by omega) |>.mono (m := 10) (by decide), ?_⟩
      exact h _ d3 (low_can (by omega)) (low_fb (by omega) (Bd.two (by omega) (by omega)) (Bd.two (by omega) (by omega))) h3.put
def pr__law_great : DSp := drawM 70 2
theorem len__law_great : ∀ ds μ P PX, pr__law_great ds μ P PX → ds.length = (["_law_purse_here"] : List Str).length := by
  rintro ds μ P PX ⟨p, m, rfl, _⟩
  rfl
theorem ok__law_great {P : Program} {w : World} {K : PySem.W.Frag} {mg : Str → Option Value} {base : Heap} {f : Addr} {fd : FuncData} (F : Fun K "_law_great" "_law_great" s__law_great f fd)
    (d__law_low : Df P w K mg base "_law_low" ["_law_top", "_law_bottom"] 1 pr__law_low)
    (d__law_take : Df P w K mg base "_law_take" ["_law_purse_here", "_law_many"] 2 pr__law_take) : FnOk P w K mg base (L2.CX P w) 3 f fd ["_law_purse_here"] (spD K pr__law_great) := by
  have nd := sc__law_great.nd
  refine fn_D (k := 2) F sc__law_great len__law_great (by decide) (fun cdv A outer s H E PX hr tk hp => ⟨_, (sd_one (sd_ret (pd_call d__law_low tk hr (by rfl) (da_cons (pd_sub (pd_call d__law_take tk hr (by rfl) (da_cons (vr 0) (da_cons (pd_add (pd_mul pd_int (pd_pow pd_int pd_int)) pd_int) da_nil))) (pd_pow pd_int pd_int)) (da_cons (pd_add pd_int (pd_call d__law_take tk hr (by rfl) (da_cons (vr 0) (da_cons (pd_pow pd_int pd_int) da_nil)))) da_nil)))))⟩) ?_
  rintro ds μ P PX ⟨p, m, rfl, hp, hm, h⟩
  have c1 : PowC 10 19 := powC 4
  (try simp only [↓r_wm1, ↓r_wm2, ↓r_wm3, ↓r_wm4, ↓r_forT, ↓r_forI, ↓r_fU0, ↓r_fU1, ↓r_turn, ↓r_yes, ↓r_ofrz, ↓r_oown, ↓r_w0, ↓r_w1, ↓r_w2, ↓r_w3, ↓r_w4, ↓r_lcT, ↓r_lcI, ↓r_lcR, ↓r_cU0, ↓r_cU1, ↓r_s0, ↓r_n0, ↓r_s1, ↓r_n1, ↓r_s2, ↓r_n2, ↓r_s3, ↓r_n3, ↓r_s4, ↓r_n4, ↓r_s5, ↓r_n5, ↓r_s6, ↓r_n6, ↓r_s7, ↓r_n7, ↓r_s8, ↓r_n8, ↓r_s9, ↓r_n9, ↓r_s10, ↓r_n10, ↓r_s11, ↓r_n11, ↓r_s12, ↓r_n12, ↓r_s13, ↓r_n13, ↓r_s14, ↓r_n14, ↓r_s15, ↓r_n15, ↓r_s16, ↓r_n16, ↓r_s17, ↓r_n17, ↓r_s18, ↓r_n18, ↓r_s19, ↓r_n19, ↓r_s20, ↓r_n20, ↓r_s21, ↓r_n21, ↓r_s22, ↓r_n22, ↓r_s23, ↓r_n23, ↓r_s24, ↓r_n24, ↓r_s25, ↓r_n25, ↓r_fr0, ↓r_fr1, ↓r_frL, ↓r_frN, ↓r_frNN, ↓r_max3, ↓r_seq, ↓r_next, ↓r_var0, ↓r_varS, ↓r_c, ↓r_op, ↓r_addI, ↓r_addS, ↓r_addT, ↓r_addL, ↓r_sub, ↓r_mul, ↓r_div, ↓r_mod, ↓r_pow, ↓r_lt, ↓r_le, ↓r_gt, ↓r_ge, ↓r_eqI, ↓r_neI, ↓r_isN, ↓r_isT, ↓r_isI, ↓r_isR, ↓r_inN, ↓r_inT, ↓r_inI, ↓r_ixT, ↓r_ixLs, ↓r_ixRo, ↓r_ixP, ↓r_at0, ↓r_at1, ↓r_at2, ↓r_at3, ↓r_neg, ↓r_negC, ↓r_b, ↓r_bl, ↓r_and, ↓r_or, ↓r_not, ↓r_andV, ↓r_orV, ↓r_notV, ↓r_bl', ↓r_if, ↓r_ifS, ↓r_asg, ↓r_name, ↓r_jnil, ↓r_jcons, ↓r_jtup, ↓r_jlst, ↓r_jlstP, ↓r_jsub, ↓r_jcut, ↓r_jcutP, ↓r_jcutA, ↓r_in2, ↓r_stP, ↓r_st0, ↓r_st1, ↓r_st2, ↓r_par, ↓r_ret, ↓r_retN, ↓r_drop, ↓r_brk, ↓r_cont, ↓r_raise, ↓r_nil, ↓r_cons, ↓r_tup, ↓r_lst, ↓r_new, ↓r_frz, ↓r_frzP, ↓r_cb, ↓r_call, ↓r_abs, ↓r_max, ↓r_min, ↓r_intI, ↓r_intB, ↓r_lenT, ↓r_lenL, ↓r_lenR, ↓r_lenP, ↓r_listL, ↓r_listR, ↓r_listOL, ↓r_tupleL, ↓r_tupleP, ↓r_isiII, ↓r_isiIB, ↓r_isiBI, ↓r_isiBB, ↓r_isiTT, ↓r_isiLL, ↓r_app, ↓r_appP, ↓r_clr, ↓r_clrP, ↓r_lstP, ↓r_cut, ↓r_onone, ↓r_osome, ↓r_int', ↓r_cutT, ↓r_cutLs, ↓r_cutP, ↓r_range1, ↓r_rg1, ↓rs0, ↓rsS, ↓ite_dec, ↓ite_ndec, ↓put_put, startD, List.length_cons, List.length_nil, and_assoc, and_true, true_and, and_self, or_self, or_false, false_or, or_true, true_or, decide_eq_true_eq, decide_true, decide_false, Bool.not_true, Bool.not_false, Bool.false_eq_true, if_true, if_false, ↓reduceIte, ne_eq, Nat.reduceLeDiff, Nat.reduceAdd, not_false_eq_true, not_true_eq_false, reduceCtorEq, Option.some.injEq, Int.reduceToNat, Int.reducePow, Int.reduceAdd, Int.reduceMul, Int.reduceSub, Int.reduceNeg, Int.reduceEq, List.nil_append, List.cons_append, ↓r_keep, ↓r_isExc, ↓r_indexM, ↓r_lstL, ↓r_eqF, ↓r_neF, ↓r_eqM, ↓r_neM, ↓r_isiFr, ↓r_eqB, ↓r_neB, beq_self_eq_true, ↓r_cutO, ↓r_cutOL, ↓r_cutOP, c1])
  refine ⟨mulC (m := 3) (n := 70) (by decide) (by decide), p, _, m, rfl, hp, by omega, by decide, by decide, fun a d1 a0 a1 h1 => ?_⟩
  (try simp only [↓r_wm1, ↓r_wm2, ↓r_wm3, ↓r_wm4, ↓r_forT, ↓r_forI, ↓r_fU0, ↓r_fU1, ↓r_turn, ↓r_yes, ↓r_ofrz, ↓r_oown, ↓r_w0, ↓r_w1, ↓r_w2, ↓r_w3, ↓r_w4, ↓r_lcT, ↓r_lcI, ↓r_lcR, ↓r_cU0, ↓r_cU1, ↓r_s0, ↓r_n0, ↓r_s1, ↓r_n1, ↓r_s2, ↓r_n2, ↓r_s3, ↓r_n3, ↓r_s4, ↓r_n4, ↓r_s5, ↓r_n5, ↓r_s6, ↓r_n6, ↓r_s7, ↓r_n7, ↓r_s8, ↓r_n8, ↓r_s9, ↓r_n9, ↓r_s10, ↓r_n10, ↓r_s11, ↓r_n11, ↓r_s12, ↓r_n12, ↓r_s13, ↓r_n13, ↓r_s14, ↓r_n14, ↓r_s15, ↓r_n15, ↓r_s16, ↓r_n16, ↓r_s17, ↓r_n17, ↓r_s18, ↓r_n18, ↓r_s19, ↓r_n19, ↓r_s20, ↓r_n20, ↓r_s21, ↓r_n21, ↓r_s22, ↓r_n22, ↓r_s23, ↓r_n23, ↓r_s24, ↓r_n24, ↓r_s25, ↓r_n25, ↓r_fr0, ↓r_fr1, ↓r_frL, ↓r_frN, ↓r_frNN, ↓r_max3, ↓r_seq, ↓r_next, ↓r_var0, ↓r_varS, ↓r_c, ↓r_op, ↓r_addI, ↓r_addS, ↓r_addT, ↓r_addL, ↓r_sub, ↓r_mul, ↓r_div, ↓r_mod, ↓r_pow, ↓r_lt, ↓r_le, ↓r_gt, ↓r_ge, ↓r_eqI, ↓r_neI, ↓r_isN, ↓r_isT, ↓r_isI, ↓r_isR, ↓r_inN, ↓r_inT, ↓r_inI, ↓r_ixT, ↓r_ixLs, ↓r_ixRo, ↓r_ixP, ↓r_at0, ↓r_at1, ↓r_at2, ↓r_at3, ↓r_neg, ↓r_negC, ↓r_b, ↓r_bl, ↓r_and, ↓r_or, ↓r_not, ↓r_andV, ↓r_orV, ↓r_notV, ↓r_bl', ↓r_if, ↓r_ifS, ↓r_asg, ↓r_name, ↓r_jnil, ↓r_jcons, ↓r_jtup, ↓r_jlst, ↓r_jlstP, ↓r_jsub, ↓r_jcut, ↓r_jcutP, ↓r_jcutA, ↓r_in2, ↓r_stP, ↓r_st0, ↓r_st1, ↓r_st2, ↓r_par, ↓r_ret, ↓r_retN, ↓r_drop, ↓r_brk, ↓r_cont, ↓r_raise, ↓r_nil, ↓r_cons, ↓r_tup, ↓r_lst, ↓r_new, ↓r_frz, ↓r_frzP, ↓r_cb, ↓r_call, ↓r_abs, ↓r_max, ↓r_min, ↓r_intI, ↓r_intB, ↓r_lenT, ↓r_lenL, ↓r_lenR, ↓r_lenP, ↓r_listL, ↓r_listR, ↓r_listOL, ↓r_tupleL, ↓r_tupleP, ↓r_isiII, ↓r_isiIB, ↓r_isiBI, ↓r_isiBB, ↓r_isiTT, ↓r_isiLL, ↓r_app, ↓r_appP, ↓r_clr, ↓r_clrP, ↓r_lstP, ↓r_cut, ↓r_onone, ↓r_osome, ↓r_int', ↓r_cutT, ↓r_cutLs, ↓r_cutP, ↓r_range1, ↓r_rg1, ↓rs0, ↓rsS, ↓ite_dec, ↓ite_ndec, ↓put_put, startD, List.length_cons, List.length_nil, and_assoc, and_true, true_and, and_self, or_self, or_false, false_or, or_true, true_or, decide_eq_true_eq, decide_true, decide_false, Bool.not_true, Bool.not_false, Bool.false_eq_true, if_true, if_false, ↓reduceIte, ne_eq, Nat.reduceLeDiff, Nat.reduceAdd, not_false_eq_true, not_true_eq_false, reduceCtorEq, Option.some.injEq, Int.reduceToNat, Int.reducePow, Int.reduceAdd, Int.reduceMul, Int.reduceSub, Int.reduceNeg, Int.reduceEq, List.nil_append, List.cons_append, ↓r_keep, ↓r_isExc, ↓r_indexM, ↓r_lstL, ↓r_eqF, ↓r_neF, ↓r_eqM, ↓r_neM, ↓r_isiFr, ↓r_eqB, ↓r_neB, beq_self_eq_true, ↓r_cutO, ↓r_cutOL, ↓r_cutOP, c1])
  refine ⟨p, _, _, rfl, h1, by omega, by decide, by decide, fun b d2 b0 b1 h2 => ?_⟩
  (try simp only [↓r_wm1, ↓r_wm2, ↓r_wm3, ↓r_wm4, ↓r_forT, ↓r_forI, ↓r_fU0, ↓r_fU1, ↓r_turn, ↓r_yes, ↓r_ofrz, ↓r_oown, ↓r_w0, ↓r_w1, ↓r_w2, ↓r_w3, ↓r_w4, ↓r_lcT, ↓r_lcI, ↓r_lcR, ↓r_cU0, ↓r_cU1, ↓r_s0, ↓r_n0, ↓r_s1, ↓r_n1, ↓r_s2, ↓r_n2, ↓r_s3, ↓r_n3, ↓r_s4, ↓r_n4, ↓r_s5, ↓r_n5, ↓r_s6, ↓r_n6, ↓r_s7, ↓r_n7, ↓r_s8, ↓r_n8, ↓r_s9, ↓r_n9, ↓r_s10, ↓r_n10, ↓r_s11, ↓r_n11, ↓r_s12, ↓r_n12, ↓r_s13, ↓r_n13, ↓r_s14, ↓r_n14, ↓r_s15, ↓r_n15, ↓r_s16, ↓r_n16, ↓r_s17, ↓r_n17, ↓r_s18, ↓r_n18, ↓r_s19, ↓r_n19, ↓r_s20, ↓r_n20, ↓r_s21, ↓r_n21, ↓r_s22, ↓r_n22, ↓r_s23, ↓r_n23, ↓r_s24, ↓r_n24, ↓r_s25, ↓r_n25, ↓r_fr0, ↓r_fr1, ↓r_frL, ↓r_frN, ↓r_frNN, ↓r_max3, ↓r_seq, ↓r_next, ↓r_var0, ↓r_varS, ↓r_c, ↓r_op, ↓r_addI, ↓r_addS, ↓r_addT, ↓r_addL, ↓r_sub, ↓r_mul, ↓r_div, ↓r_mod, ↓r_pow, ↓r_lt, ↓r_le, ↓r_gt, ↓r_ge, ↓r_eqI, ↓r_neI, ↓r_isN, ↓r_isT, ↓r_isI, ↓r_isR, ↓r_inN, ↓r_inT, ↓r_inI, ↓r_ixT, ↓r_ixLs, ↓r_ixRo, ↓r_ixP, ↓r_at0, ↓r_at1, ↓r_at2, ↓r_at3, ↓r_neg, ↓r_negC, ↓r_b, ↓r_bl, ↓r_and, ↓r_or, ↓r_not, ↓r_andV, ↓r_orV, ↓r_notV, ↓r_bl', ↓r_if, ↓r_ifS, ↓r_asg, ↓r_name, ↓r_jnil, ↓r_jcons, ↓r_jtup, ↓r_jlst, ↓r_jlstP, ↓r_jsub, ↓r_jcut, ↓r_jcutP, ↓r_jcutA, ↓r_in2, ↓r_stP, ↓r_st0, ↓r_st1, ↓r_st2, ↓r_par, ↓r_ret, ↓r_retN, ↓r_drop, ↓r_brk, ↓r_cont, ↓r_raise, ↓r_nil, ↓r_cons, ↓r_tup, ↓r_lst, ↓r_new, ↓r_frz, ↓r_frzP, ↓r_cb, ↓r_call, ↓r_abs, ↓r_max, ↓r_min, ↓r_intI, ↓r_intB, ↓r_lenT, ↓r_lenL, ↓r_lenR, ↓r_lenP, ↓r_listL, ↓r_listR, ↓r_listOL, ↓r_tupleL, ↓r_tupleP, ↓r_isiII, ↓r_isiIB, ↓r_isiBI, ↓r_isiBB, ↓r_isiTT, ↓r_isiLL, ↓r_app, ↓r_appP, ↓r_clr, ↓r_clrP, ↓r_lstP, ↓r_cut, ↓r_onone, ↓r_osome, ↓r_int', ↓r_cutT, ↓r_cutLs, ↓r_cutP, ↓r_range1, ↓r_rg1, ↓rs0, ↓rsS, ↓ite_dec, ↓ite_ndec, ↓put_put, startD, List.length_cons, List.length_nil, and_assoc, and_true, true_and, and_self, or_self, or_false, false_or, or_true, true_or, decide_eq_true_eq, decide_true, decide_false, Bool.not_true, Bool.not_false, Bool.false_eq_true, if_true, if_false, ↓reduceIte, ne_eq, Nat.reduceLeDiff, Nat.reduceAdd, not_false_eq_true, not_true_eq_false, reduceCtorEq, Option.some.injEq, Int.reduceToNat, Int.reducePow, Int.reduceAdd, Int.reduceMul, Int.reduceSub, Int.reduceNeg, Int.reduceEq, List.nil_append, List.cons_append, ↓r_keep, ↓r_isExc, ↓r_indexM, ↓r_lstL, ↓r_eqF, ↓r_neF, ↓r_eqM, ↓r_neM, ↓r_isiFr, ↓r_eqB, ↓r_neB, beq_self_eq_true, ↓r_cutO, ↓r_cutOL, ↓r_cutOP])
  refine ⟨_, _, rfl, by omega, Bd.two (n := 70) (by omega) (by omega) |>.mono (by decide), ?_⟩
  exact h (.q _) d2 (low_ok (by omega) (Bd.two (by omega) (by omega)) (Bd.two (by omega) (by omega))) trivial h2.put
def pr__law_great_root : DSp := drawM 70 4
theorem len__law_great_root : ∀ ds μ P PX, pr__law_great_root ds μ P PX → ds.length = (["_law_purse_here"] : List Str).length := by
  rintro ds μ P PX ⟨p, m, rfl, _⟩
  rfl
theorem ok__law_great_root {P : Program} {w : World} {K : PySem.W.Frag} {mg : Str → Option Value} {base : Heap} {f : Addr} {fd : FuncData} (F : Fun K "_law_great_root" "_law_great_root" s__law_great_root f fd)
    (d__law_take : Df P w K mg base "_law_take" ["_law_purse_here", "_law_many"] 2 pr__law_take)
    (d__law_square_root : Df P w K mg base "_law_square_root" ["_law_number_here"] 1 pr__law_square_root)
    (d__law_root : Df P w K mg base "_law_root" ["_law_a", "_law_b", "_law_c", "_law_side"] 2 pr__law_root) : FnOk P w K mg base (L2.CX P w) 3 f fd ["_law_purse_here"] (spD K pr__law_great_root) := by
  have nd := sc__law_great_root.nd
  refine fn_D (k := 2) F sc__law_great_root len__law_great_root (by decide) (fun cdv A outer s H E PX hr tk hp => ⟨_, (sd_cons (sd_set 1 nd (pd_sub (pd_call d__law_take tk hr (by rfl) (da_cons (vr 0) (da_cons (pd_mul pd_int (pd_pow pd_int pd_int)) da_nil))) (pd_pow pd_int pd_int)))
      (sd_cons (sd_set 2 nd (pd_sub (pd_call d__law_take tk hr (by rfl) (da_cons (vr 0) (da_cons pd_int da_nil))) pd_int))
      (sd_cons (sd_set 3 nd (pd_sub (pd_sub pd_int (vr 1)) (vr 2)))
      (sd_cons (sd_set 4 nd (pd_sub (pd_add (pd_mul (vr 1) (vr 2)) (pd_call d__law_take tk hr (by rfl) (da_cons (vr 0) (da_cons pd_int da_nil)))) pd_int))
      (sd_cons (sd_set 5 nd (pd_sub (pd_mul (vr 3) (vr 3)) (pd_mul pd_int (vr 4))))
      (sd_cons (sd_if (pt_w (dw_or (pt_lt (vr 5) pd_int) (dw_or1 (pt_eq hr.units (pd_mul (pd_call d__law_square_root tk hr (by rfl) (da_cons (vr 5) da_nil)) (pd_call d__law_square_root tk hr (by rfl) (da_cons (vr 5) da_nil))) (vr 5)))))
       (sd_one (sd_ret (pd_tup (da_cons (vr 1) (da_cons pd_int da_nil)))))
       sd_nil)
      (sd_one (sd_ret (pd_call d__law_root tk hr (by rfl) (da_cons pd_int (da_cons (vr 3) (da_cons (vr 4) (da_cons (pd_call d__law_take tk hr (by rfl) (da_cons (vr 0) (da_cons pd_int da_nil))) da_nil)))))))))))))⟩) ?_
  rintro ds μ P PX ⟨p, m, rfl, hp, hm, h⟩
  have c1 : PowC 10 18 := powC 4
  (try simp only [↓r_wm1, ↓r_wm2, ↓r_wm3, ↓r_wm4, ↓r_forT, ↓r_forI, ↓r_fU0, ↓r_fU1, ↓r_turn, ↓r_yes, ↓r_ofrz, ↓r_oown, ↓r_w0, ↓r_w1, ↓r_w2, ↓r_w3, ↓r_w4, ↓r_lcT, ↓r_lcI, ↓r_lcR, ↓r_cU0, ↓r_cU1, ↓r_s0, ↓r_n0, ↓r_s1, ↓r_n1, ↓r_s2, ↓r_n2, ↓r_s3, ↓r_n3, ↓r_s4, ↓r_n4, ↓r_s5, ↓r_n5, ↓r_s6, ↓r_n6, ↓r_s7, ↓r_n7, ↓r_s8, ↓r_n8, ↓r_s9, ↓r_n9, ↓r_s10, ↓r_n10, ↓r_s11, ↓r_n11, ↓r_s12, ↓r_n12, ↓r_s13, ↓r_n13, ↓r_s14, ↓r_n14, ↓r_s15, ↓r_n15, ↓r_s16, ↓r_n16, ↓r_s17, ↓r_n17, ↓r_s18, ↓r_n18, ↓r_s19, ↓r_n19, ↓r_s20, ↓r_n20, ↓r_s21, ↓r_n21, ↓r_s22, ↓r_n22, ↓r_s23, ↓r_n23, ↓r_s24, ↓r_n24, ↓r_s25, ↓r_n25, ↓r_fr0, ↓r_fr1, ↓r_frL, ↓r_frN, ↓r_frNN, ↓r_max3, ↓r_seq, ↓r_next, ↓r_var0, ↓r_varS, ↓r_c, ↓r_op, ↓r_addI, ↓r_addS, ↓r_addT, ↓r_addL, ↓r_sub, ↓r_mul, ↓r_div, ↓r_mod, ↓r_pow, ↓r_lt, ↓r_le, ↓r_gt, ↓r_ge, ↓r_eqI, ↓r_neI, ↓r_isN, ↓r_isT, ↓r_isI, ↓r_isR, ↓r_inN, ↓r_inT, ↓r_inI, ↓r_ixT, ↓r_ixLs, ↓r_ixRo, ↓r_ixP, ↓r_at0, ↓r_at1, ↓r_at2, ↓r_at3, ↓r_neg, ↓r_negC, ↓r_b, ↓r_bl, ↓r_and, ↓r_or, ↓r_not, ↓r_andV, ↓r_orV, ↓r_notV, ↓r_bl', ↓r_if, ↓r_ifS, ↓r_asg, ↓r_name, ↓r_jnil, ↓r_jcons, ↓r_jtup, ↓r_jlst, ↓r_jlstP, ↓r_jsub, ↓r_jcut, ↓r_jcutP, ↓r_jcutA, ↓r_in2, ↓r_stP, ↓r_st0, ↓r_st1, ↓r_st2, ↓r_par, ↓r_ret, ↓r_retN, ↓r_drop, ↓r_brk, ↓r_cont, ↓r_raise, ↓r_nil, ↓r_cons, ↓r_tup, ↓r_lst, ↓r_new, ↓r_frz, ↓r_frzP, ↓r_cb, ↓r_call, ↓r_abs, ↓r_max, ↓r_min, ↓r_intI, ↓r_intB, ↓r_lenT, ↓r_lenL, ↓r_lenR, ↓r_lenP, ↓r_listL, ↓r_listR, ↓r_listOL, ↓r_tupleL, ↓r_tupleP, ↓r_isiII, ↓r_isiIB, ↓r_isiBI, ↓r_isiBB, ↓r_isiTT, ↓r_isiLL, ↓r_app, ↓r_appP, ↓r_clr, ↓r_clrP, ↓r_lstP, ↓r_cut, ↓r_onone, ↓r_osome, ↓r_int', ↓r_cutT, ↓r_cutLs, ↓r_cutP, ↓r_range1, ↓r_rg1, ↓rs0, ↓rsS, ↓ite_dec, ↓ite_ndec, ↓put_put, startD, List.length_cons, List.length_nil, and_assoc, and_true, true_and, and_self, or_self, or_false, false_or, or_true, true_or, decide_eq_true_eq, decide_true, decide_false, Bool.not_true, Bool.not_false, Bool.false_eq_true, if_true, if_false, ↓reduceIte, ne_eq, Nat.reduceLeDiff, Nat.reduceAdd, not_false_eq_true, not_true_eq_false, reduceCtorEq, Option.some.injEq, Int.reduceToNat, Int.reducePow, Int.reduceAdd, Int.reduceMul, Int.reduceSub, Int.reduceNeg, Int.reduceEq, List.nil_append, List.cons_append, ↓r_keep, ↓r_isExc, ↓r_indexM, ↓r_lstL, ↓r_eqF, ↓r_neF, ↓r_eqM, ↓r_neM, ↓r_isiFr, ↓r_eqB, ↓r_neB, beq_self_eq_true, ↓r_cutO, ↓r_cutOL, ↓r_cutOP, c1])
  refine ⟨mulC (m := 3) (n := 70) (by decide) (by decide), p, _, m, rfl, hp, by omega, by decide, by decide, fun x d1 x0 x1 h1 => ?_⟩
  (try simp only [↓r_wm1, ↓r_wm2, ↓r_wm3, ↓r_wm4, ↓r_forT, ↓r_forI, ↓r_fU0, ↓r_fU1, ↓r_turn, ↓r_yes, ↓r_ofrz, ↓r_oown, ↓r_w0, ↓r_w1, ↓r_w2, ↓r_w3, ↓r_w4, ↓r_lcT, ↓r_lcI, ↓r_lcR, ↓r_cU0, ↓r_cU1, ↓r_s0, ↓r_n0, ↓r_s1, ↓r_n1, ↓r_s2, ↓r_n2, ↓r_s3, ↓r_n3, ↓r_s4, ↓r_n4, ↓r_s5, ↓r_n5, ↓r_s6, ↓r_n6, ↓r_s7, ↓r_n7, ↓r_s8, ↓r_n8, ↓r_s9, ↓r_n9, ↓r_s10, ↓r_n10, ↓r_s11, ↓r_n11, ↓r_s12, ↓r_n12, ↓r_s13, ↓r_n13, ↓r_s14, ↓r_n14, ↓r_s15, ↓r_n15, ↓r_s16, ↓r_n16, ↓r_s17, ↓r_n17, ↓r_s18, ↓r_n18, ↓r_s19, ↓r_n19, ↓r_s20, ↓r_n20, ↓r_s21, ↓r_n21, ↓r_s22, ↓r_n22, ↓r_s23, ↓r_n23, ↓r_s24, ↓r_n24, ↓r_s25, ↓r_n25, ↓r_fr0, ↓r_fr1, ↓r_frL, ↓r_frN, ↓r_frNN, ↓r_max3, ↓r_seq, ↓r_next, ↓r_var0, ↓r_varS, ↓r_c, ↓r_op, ↓r_addI, ↓r_addS, ↓r_addT, ↓r_addL, ↓r_sub, ↓r_mul, ↓r_div, ↓r_mod, ↓r_pow, ↓r_lt, ↓r_le, ↓r_gt, ↓r_ge, ↓r_eqI, ↓r_neI, ↓r_isN, ↓r_isT, ↓r_isI, ↓r_isR, ↓r_inN, ↓r_inT, ↓r_inI, ↓r_ixT, ↓r_ixLs, ↓r_ixRo, ↓r_ixP, ↓r_at0, ↓r_at1, ↓r_at2, ↓r_at3, ↓r_neg, ↓r_negC, ↓r_b, ↓r_bl, ↓r_and, ↓r_or, ↓r_not, ↓r_andV, ↓r_orV, ↓r_notV, ↓r_bl', ↓r_if, ↓r_ifS, ↓r_asg, ↓r_name, ↓r_jnil, ↓r_jcons, ↓r_jtup, ↓r_jlst, ↓r_jlstP, ↓r_jsub, ↓r_jcut, ↓r_jcutP, ↓r_jcutA, ↓r_in2, ↓r_stP, ↓r_st0, ↓r_st1, ↓r_st2, ↓r_par, ↓r_ret, ↓r_retN, ↓r_drop, ↓r_brk, ↓r_cont, ↓r_raise, ↓r_nil, ↓r_cons, ↓r_tup, ↓r_lst, ↓r_new, ↓r_frz, ↓r_frzP, ↓r_cb, ↓r_call, ↓r_abs, ↓r_max, ↓r_min, ↓r_intI, ↓r_intB, ↓r_lenT, ↓r_lenL, ↓r_lenR, ↓r_lenP, ↓r_listL, ↓r_listR, ↓r_listOL, ↓r_tupleL, ↓r_tupleP, ↓r_isiII, ↓r_isiIB, ↓r_isiBI, ↓r_isiBB, ↓r_isiTT, ↓r_isiLL, ↓r_app, ↓r_appP, ↓r_clr, ↓r_clrP, ↓r_lstP, ↓r_cut, ↓r_onone, ↓r_osome, ↓r_int', ↓r_cutT, ↓r_cutLs, ↓r_cutP, ↓r_range1, ↓r_rg1, ↓rs0, ↓rsS, ↓ite_dec, ↓ite_ndec, ↓put_put, startD, List.length_cons, List.length_nil, and_assoc, and_true, true_and, and_self, or_self, or_false, false_or, or_true, true_or, decide_eq_true_eq, decide_true, decide_false, Bool.not_true, Bool.not_false, Bool.false_eq_true, if_true, if_false, ↓reduceIte, ne_eq, Nat.reduceLeDiff, Nat.reduceAdd, not_false_eq_true, not_true_eq_false, reduceCtorEq, Option.some.injEq, Int.reduceToNat, Int.reducePow, Int.reduceAdd, Int.reduceMul, Int.reduceSub, Int.reduceNeg, Int.reduceEq, List.nil_append, List.cons_append, ↓r_keep, ↓r_isExc, ↓r_indexM, ↓r_lstL, ↓r_eqF, ↓r_neF, ↓r_eqM, ↓r_neM, ↓r_isiFr, ↓r_eqB, ↓r_neB, beq_self_eq_true, ↓r_cutO, ↓r_cutOL, ↓r_cutOP, c1])
  refine ⟨p, _, _, rfl, h1, by omega, by decide, by decide, fun y d2 y0 y1 h2 => ?_⟩
  have bx : Bd 60 (x - 1000000000000000000) := Bd.two (by omega) (by omega)
  have by' : Bd 4 (y - 9) := Bd.two (by omega) (by omega)
  have bxy := bx.mul by'
  (try simp only [↓r_wm1, ↓r_wm2, ↓r_wm3, ↓r_wm4, ↓r_forT, ↓r_forI, ↓r_fU0, ↓r_fU1, ↓r_turn, ↓r_yes, ↓r_ofrz, ↓r_oown, ↓r_w0, ↓r_w1, ↓r_w2, ↓r_w3, ↓r_w4, ↓r_lcT, ↓r_lcI, ↓r_lcR, ↓r_cU0, ↓r_cU1, ↓r_s0, ↓r_n0, ↓r_s1, ↓r_n1, ↓r_s2, ↓r_n2, ↓r_s3, ↓r_n3, ↓r_s4, ↓r_n4, ↓r_s5, ↓r_n5, ↓r_s6, ↓r_n6, ↓r_s7, ↓r_n7, ↓r_s8, ↓r_n8, ↓r_s9, ↓r_n9, ↓r_s10, ↓r_n10, ↓r_s11, ↓r_n11, ↓r_s12, ↓r_n12, ↓r_s13, ↓r_n13, ↓r_s14, ↓r_n14, ↓r_s15, ↓r_n15, ↓r_s16, ↓r_n16, ↓r_s17, ↓r_n17, ↓r_s18, ↓r_n18, ↓r_s19, ↓r_n19, ↓r_s20, ↓r_n20, ↓r_s21, ↓r_n21, ↓r_s22, ↓r_n22, ↓r_s23, ↓r_n23, ↓r_s24, ↓r_n24, ↓r_s25, ↓r_n25, ↓r_fr0, ↓r_fr1, ↓r_frL, ↓r_frN, ↓r_frNN, ↓r_max3, ↓r_seq, ↓r_next, ↓r_var0, ↓r_varS, ↓r_c, ↓r_op, ↓r_addI, ↓r_addS, ↓r_addT, ↓r_addL, ↓r_sub, ↓r_mul, ↓r_div, ↓r_mod, ↓r_pow, ↓r_lt, ↓r_le, ↓r_gt, ↓r_ge, ↓r_eqI, ↓r_neI, ↓r_isN, ↓r_isT, ↓r_isI, ↓r_isR, ↓r_inN, ↓r_inT, ↓r_inI, ↓r_ixT, ↓r_ixLs, ↓r_ixRo, ↓r_ixP, ↓r_at0, ↓r_at1, ↓r_at2, ↓r_at3, ↓r_neg, ↓r_negC, ↓r_b, ↓r_bl, ↓r_and, ↓r_or, ↓r_not, ↓r_andV, ↓r_orV, ↓r_notV, ↓r_bl', ↓r_if, ↓r_ifS, ↓r_asg, ↓r_name, ↓r_jnil, ↓r_jcons, ↓r_jtup, ↓r_jlst, ↓r_jlstP, ↓r_jsub, ↓r_jcut, ↓r_jcutP, ↓r_jcutA, ↓r_in2, ↓r_stP, ↓r_st0, ↓r_st1, ↓r_st2, ↓r_par, ↓r_ret, ↓r_retN, ↓r_drop, ↓r_brk, ↓r_cont, ↓r_raise, ↓r_nil, ↓r_cons, ↓r_tup, ↓r_lst, ↓r_new, ↓r_frz, ↓r_frzP, ↓r_cb, ↓r_call, ↓r_abs, ↓r_max, ↓r_min, ↓r_intI, ↓r_intB, ↓r_lenT, ↓r_lenL, ↓r_lenR, ↓r_lenP, ↓r_listL, ↓r_listR, ↓r_listOL, ↓r_tupleL, ↓r_tupleP, ↓r_isiII, ↓r_isiIB, ↓r_isiBI, ↓r_isiBB, ↓r_isiTT, ↓r_isiLL, ↓r_app, ↓r_appP, ↓r_clr, ↓r_clrP, ↓r_lstP, ↓r_cut, ↓r_onone, ↓r_osome, ↓r_int', ↓r_cutT, ↓r_cutLs, ↓r_cutP, ↓r_range1, ↓r_rg1, ↓rs0, ↓rsS, ↓ite_dec, ↓ite_ndec, ↓put_put, startD, List.length_cons, List.length_nil, and_assoc, and_true, true_and, and_self, or_self, or_false, false_or, or_true, true_or, decide_eq_true_eq, decide_true, decide_false, Bool.not_true, Bool.not_false, Bool.false_eq_true, if_true, if_false, ↓reduceIte, ne_eq, Nat.reduceLeDiff, Nat.reduceAdd, not_false_eq_true, not_true_eq_false, reduceCtorEq, Option.some.injEq, Int.reduceToNat, Int.reducePow, Int.reduceAdd, Int.reduceMul, Int.reduceSub, Int.reduceNeg, Int.reduceEq, List.nil_append, List.cons_append, ↓r_keep, ↓r_isExc, ↓r_indexM, ↓r_lstL, ↓r_eqF, ↓r_neF, ↓r_eqM, ↓r_neM, ↓r_isiFr, ↓r_eqB, ↓r_neB, beq_self_eq_true, ↓r_cutO, ↓r_cutOL, ↓r_cutOP])
  refine ⟨mulC bx by', p, _, _, rfl, h2.put, by omega, by decide, by decide, fun z d3 z0 z1 h3 => ?_⟩
  have bb : Bd 62 (0 - (x - 1000000000000000000) - (y - 9)) := Bd.two (by omega) (by omega)
  have bc : Bd 66 ((x - 1000000000000000000) * (y - 9) + z - 1) := ((bxy.add (Bd.two (n := 3) (i := z) (by omega) (by omega))).sub (show Bd 1 1 by decide)).mono (by decide)
  (try simp only [↓r_wm1, ↓r_wm2, ↓r_wm3, ↓r_wm4, ↓r_forT, ↓r_forI, ↓r_fU0, ↓r_fU1, ↓r_turn, ↓r_yes, ↓r_ofrz, ↓r_oown, ↓r_w0, ↓r_w1, ↓r_w2, ↓r_w3, ↓r_w4, ↓r_lcT, ↓r_lcI, ↓r_lcR, ↓r_cU0, ↓r_cU1, ↓r_s0, ↓r_n0, ↓r_s1, ↓r_n1, ↓r_s2, ↓r_n2, ↓r_s3, ↓r_n3, ↓r_s4, ↓r_n4, ↓r_s5, ↓r_n5, ↓r_s6, ↓r_n6, ↓r_s7, ↓r_n7, ↓r_s8, ↓r_n8, ↓r_s9, ↓r_n9, ↓r_s10, ↓r_n10, ↓r_s11, ↓r_n11, ↓r_s12, ↓r_n12, ↓r_s13, ↓r_n13, ↓r_s14, ↓r_n14, ↓r_s15, ↓r_n15, ↓r_s16, ↓r_n16, ↓r_s17, ↓r_n17, ↓r_s18, ↓r_n18, ↓r_s19, ↓r_n19, ↓r_s20, ↓r_n20, ↓r_s21, ↓r_n21, ↓r_s22, ↓r_n22, ↓r_s23, ↓r_n23, ↓r_s24, ↓r_n24, ↓r_s25, ↓r_n25, ↓r_fr0, ↓r_fr1, ↓r_frL, ↓r_frN, ↓r_frNN, ↓r_max3, ↓r_seq, ↓r_next, ↓r_var0, ↓r_varS, ↓r_c, ↓r_op, ↓r_addI, ↓r_addS, ↓r_addT, ↓r_addL, ↓r_sub, ↓r_mul, ↓r_div, ↓r_mod, ↓r_pow, ↓r_lt, ↓r_le, ↓r_gt, ↓r_ge, ↓r_eqI, ↓r_neI, ↓r_isN, ↓r_isT, ↓r_isI, ↓r_isR, ↓r_inN, ↓r_inT, ↓r_inI, ↓r_ixT, ↓r_ixLs, ↓r_ixRo, ↓r_ixP, ↓r_at0, ↓r_at1, ↓r_at2, ↓r_at3, ↓r_neg, ↓r_negC, ↓r_b, ↓r_bl, ↓r_and, ↓r_or, ↓r_not, ↓r_andV, ↓r_orV, ↓r_notV, ↓r_bl', ↓r_if, ↓r_ifS, ↓r_asg, ↓r_name, ↓r_jnil, ↓r_jcons, ↓r_jtup, ↓r_jlst, ↓r_jlstP, ↓r_jsub, ↓r_jcut, ↓r_jcutP, ↓r_jcutA, ↓r_in2, ↓r_stP, ↓r_st0, ↓r_st1, ↓r_st2, ↓r_par, ↓r_ret, ↓r_retN, ↓r_drop, ↓r_brk, ↓r_cont, ↓r_raise, ↓r_nil, ↓r_cons, ↓r_tup, ↓r_lst, ↓r_new, ↓r_frz, ↓r_frzP, ↓r_cb, ↓r_call, ↓r_abs, ↓r_max, ↓r_min, ↓r_intI, ↓r_intB, ↓r_lenT, ↓r_lenL, ↓r_lenR, ↓r_lenP, ↓r_listL, ↓r_listR, ↓r_listOL, ↓r_tupleL, ↓r_tupleP, ↓r_isiII, ↓r_isiIB, ↓r_isiBI, ↓r_isiBB, ↓r_isiTT, ↓r_isiLL, ↓r_app, ↓r_appP, ↓r_clr, ↓r_clrP, ↓r_lstP, ↓r_cut, ↓r_onone, ↓r_osome, ↓r_int', ↓r_cutT, ↓r_cutLs, ↓r_cutP, ↓r_range1, ↓r_rg1, ↓rs0, ↓rsS, ↓ite_dec, ↓ite_ndec, ↓put_put, startD, List.length_cons, List.length_nil, and_assoc, and_true, true_and, and_self, or_self, or_false, false_or, or_true, true_or, decide_eq_true_eq, decide_true, decide_false, Bool.not_true, Bool.not_false, Bool.false_eq_true, if_true, if_false, ↓reduceIte, ne_eq, Nat.reduceLeDiff, Nat.reduceAdd, not_false_eq_true, not_true_eq_false, reduceCtorEq, Option.some.injEq, Int.reduceToNat, Int.reducePow, Int.reduceAdd, Int.reduceMul, Int.reduceSub, Int.reduceNeg, Int.reduceEq, List.nil_append, List.cons_append, ↓r_keep, ↓r_isExc, ↓r_indexM, ↓r_lstL, ↓r_eqF, ↓r_neF, ↓r_eqM, ↓r_neM, ↓r_isiFr, ↓r_eqB, ↓r_neB, beq_self_eq_true, ↓r_cutO, ↓r_cutOL, ↓r_cutOP])
  generalize 0 - (x - 1000000000000000000) - (y - 9) = b at *
  generalize (x - 1000000000000000000) * (y - 9) + z - 1 = c at *
  have b4 : Bd 3 4 := by decide
  have bd1 := (bb.mul bb).sub (b4.mul bc)
  have done : P (Mom.q (x - 1000000000000000000, 1)).d (put μ p (.lst d3)) := h (.q (x - 1000000000000000000, 1)) d3 ⟨fr_int _, bx.mono (by decide), (show Bd 70 1 by decide)⟩ trivial (h3.put.mono (by omega))
  refine ⟨mulC bb bb, mulC b4 bc, ?_⟩
  split
  · exact done
  rename_i hd
  refine ⟨_, rfl, by omega, bd1.mono (by decide), fun u u0 u1 u2 => ?_⟩
  (try simp only [↓r_wm1, ↓r_wm2, ↓r_wm3, ↓r_wm4, ↓r_forT, ↓r_forI, ↓r_fU0, ↓r_fU1, ↓r_turn, ↓r_yes, ↓r_ofrz, ↓r_oown, ↓r_w0, ↓r_w1, ↓r_w2, ↓r_w3, ↓r_w4, ↓r_lcT, ↓r_lcI, ↓r_lcR, ↓r_cU0, ↓r_cU1, ↓r_s0, ↓r_n0, ↓r_s1, ↓r_n1, ↓r_s2, ↓r_n2, ↓r_s3, ↓r_n3, ↓r_s4, ↓r_n4, ↓r_s5, ↓r_n5, ↓r_s6, ↓r_n6, ↓r_s7, ↓r_n7, ↓r_s8, ↓r_n8, ↓r_s9, ↓r_n9, ↓r_s10, ↓r_n10, ↓r_s11, ↓r_n11, ↓r_s12, ↓r_n12, ↓r_s13, ↓r_n13, ↓r_s14, ↓r_n14, ↓r_s15, ↓r_n15, ↓r_s16, ↓r_n16, ↓r_s17, ↓r_n17, ↓r_s18, ↓r_n18, ↓r_s19, ↓r_n19, ↓r_s20, ↓r_n20, ↓r_s21, ↓r_n21, ↓r_s22, ↓r_n22, ↓r_s23, ↓r_n23, ↓r_s24, ↓r_n24, ↓r_s25, ↓r_n25, ↓r_fr0, ↓r_fr1, ↓r_frL, ↓r_frN, ↓r_frNN, ↓r_max3, ↓r_seq, ↓r_next, ↓r_var0, ↓r_varS, ↓r_c, ↓r_op, ↓r_addI, ↓r_addS, ↓r_addT, ↓r_addL, ↓r_sub, ↓r_mul, ↓r_div, ↓r_mod, ↓r_pow, ↓r_lt, ↓r_le, ↓r_gt, ↓r_ge, ↓r_eqI, ↓r_neI, ↓r_isN, ↓r_isT, ↓r_isI, ↓r_isR, ↓r_inN, ↓r_inT, ↓r_inI, ↓r_ixT, ↓r_ixLs, ↓r_ixRo, ↓r_ixP, ↓r_at0, ↓r_at1, ↓r_at2, ↓r_at3, ↓r_neg, ↓r_negC, ↓r_b, ↓r_bl, ↓r_and, ↓r_or, ↓r_not, ↓r_andV, ↓r_orV, ↓r_notV, ↓r_bl', ↓r_if, ↓r_ifS, ↓r_asg, ↓r_name, ↓r_jnil, ↓r_jcons, ↓r_jtup, ↓r_jlst, ↓r_jlstP, ↓r_jsub, ↓r_jcut, ↓r_jcutP, ↓r_jcutA, ↓r_in2, ↓r_stP, ↓r_st0, ↓r_st1, ↓r_st2, ↓r_par, ↓r_ret, ↓r_retN, ↓r_drop, ↓r_brk, ↓r_cont, ↓r_raise, ↓r_nil, ↓r_cons, ↓r_tup, ↓r_lst, ↓r_new, ↓r_frz, ↓r_frzP, ↓r_cb, ↓r_call, ↓r_abs, ↓r_max, ↓r_min, ↓r_intI, ↓r_intB, ↓r_lenT, ↓r_lenL, ↓r_lenR, ↓r_lenP, ↓r_listL, ↓r_listR, ↓r_listOL, ↓r_tupleL, ↓r_tupleP, ↓r_isiII, ↓r_isiIB, ↓r_isiBI, ↓r_isiBB, ↓r_isiTT, ↓r_isiLL, ↓r_app, ↓r_appP, ↓r_clr, ↓r_clrP, ↓r_lstP, ↓r_cut, ↓r_onone, ↓r_osome, ↓r_int', ↓r_cutT, ↓r_cutLs, ↓r_cutP, ↓r_range1, ↓r_rg1, ↓rs0, ↓rsS, ↓ite_dec, ↓ite_ndec, ↓put_put, startD, List.length_cons, List.length_nil, and_assoc, and_true, true_and, and_self, or_self, or_false, false_or, or_true, true_or, decide_eq_true_eq, decide_true, decide_false, Bool.not_true, Bool.not_false, Bool.false_eq_true, if_true, if_false, ↓reduceIte, ne_eq, Nat.reduceLeDiff, Nat.reduceAdd, not_false_eq_true, not_true_eq_false, reduceCtorEq, Option.some.injEq, Int.reduceToNat, Int.reducePow, Int.reduceAdd, Int.reduceMul, Int.reduceSub, Int.reduceNeg, Int.reduceEq, List.nil_append, List.cons_append, ↓r_keep, ↓r_isExc, ↓r_indexM, ↓r_lstL, ↓r_eqF, ↓r_neF, ↓r_eqM, ↓r_neM, ↓r_isiFr, ↓r_eqB, ↓r_neB, beq_self_eq_true, ↓r_cutO, ↓r_cutOL, ↓r_cutOP])
  refine ⟨_, rfl, by omega, bd1.mono (by decide), fun v v0 v1 v2 => ?_⟩
  have e := isq_unique u0 v0 u1 u2 v1 v2
  subst e
  have bu : Bd 200 u := (bd1.mono (by decide)).le (by have := le_sq u0 u1; omega)
  (try simp only [↓r_wm1, ↓r_wm2, ↓r_wm3, ↓r_wm4, ↓r_forT, ↓r_forI, ↓r_fU0, ↓r_fU1, ↓r_turn, ↓r_yes, ↓r_ofrz, ↓r_oown, ↓r_w0, ↓r_w1, ↓r_w2, ↓r_w3, ↓r_w4, ↓r_lcT, ↓r_lcI, ↓r_lcR, ↓r_cU0, ↓r_cU1, ↓r_s0, ↓r_n0, ↓r_s1, ↓r_n1, ↓r_s2, ↓r_n2, ↓r_s3, ↓r_n3, ↓r_s4, ↓r_n4, ↓r_s5, ↓r_n5, ↓r_s6, ↓r_n6, ↓r_s7, ↓r_n7, ↓r_s8, ↓r_n8, ↓r_s9, ↓r_n9, ↓r_s10, ↓r_n10, ↓r_s11, ↓r_n11, ↓r_s12, ↓r_n12, ↓r_s13, ↓r_n13, ↓r_s14, ↓r_n14, ↓r_s15, ↓r_n15, ↓r_s16, ↓r_n16, ↓r_s17, ↓r_n17, ↓r_s18, ↓r_n18, ↓r_s19, ↓r_n19, ↓r_s20, ↓r_n20, ↓r_s21, ↓r_n21, ↓r_s22, ↓r_n22, ↓r_s23, ↓r_n23, ↓r_s24, ↓r_n24, ↓r_s25, ↓r_n25, ↓r_fr0, ↓r_fr1, ↓r_frL, ↓r_frN, ↓r_frNN, ↓r_max3, ↓r_seq, ↓r_next, ↓r_var0, ↓r_varS, ↓r_c, ↓r_op, ↓r_addI, ↓r_addS, ↓r_addT, ↓r_addL, ↓r_sub, ↓r_mul, ↓r_div, ↓r_mod, ↓r_pow, ↓r_lt, ↓r_le, ↓r_gt, ↓r_ge, ↓r_eqI, ↓r_neI, ↓r_isN, ↓r_isT, ↓r_isI, ↓r_isR, ↓r_inN, ↓r_inT, ↓r_inI, ↓r_ixT, ↓r_ixLs, ↓r_ixRo, ↓r_ixP, ↓r_at0, ↓r_at1, ↓r_at2, ↓r_at3, ↓r_neg, ↓r_negC, ↓r_b, ↓r_bl, ↓r_and, ↓r_or, ↓r_not, ↓r_andV, ↓r_orV, ↓r_notV, ↓r_bl', ↓r_if, ↓r_ifS, ↓r_asg, ↓r_name, ↓r_jnil, ↓r_jcons, ↓r_jtup, ↓r_jlst, ↓r_jlstP, ↓r_jsub, ↓r_jcut, ↓r_jcutP, ↓r_jcutA, ↓r_in2, ↓r_stP, ↓r_st0, ↓r_st1, ↓r_st2, ↓r_par, ↓r_ret, ↓r_retN, ↓r_drop, ↓r_brk, ↓r_cont, ↓r_raise, ↓r_nil, ↓r_cons, ↓r_tup, ↓r_lst, ↓r_new, ↓r_frz, ↓r_frzP, ↓r_cb, ↓r_call, ↓r_abs, ↓r_max, ↓r_min, ↓r_intI, ↓r_intB, ↓r_lenT, ↓r_lenL, ↓r_lenR, ↓r_lenP, ↓r_listL, ↓r_listR, ↓r_listOL, ↓r_tupleL, ↓r_tupleP, ↓r_isiII, ↓r_isiIB, ↓r_isiBI, ↓r_isiBB, ↓r_isiTT, ↓r_isiLL, ↓r_app, ↓r_appP, ↓r_clr, ↓r_clrP, ↓r_lstP, ↓r_cut, ↓r_onone, ↓r_osome, ↓r_int', ↓r_cutT, ↓r_cutLs, ↓r_cutP, ↓r_range1, ↓r_rg1, ↓rs0, ↓rsS, ↓ite_dec, ↓ite_ndec, ↓put_put, startD, List.length_cons, List.length_nil, and_assoc, and_true, true_and, and_self, or_self, or_false, false_or, or_true, true_or, decide_eq_true_eq, decide_true, decide_false, Bool.not_true, Bool.not_false, Bool.false_eq_true, if_true, if_false, ↓reduceIte, ne_eq, Nat.reduceLeDiff, Nat.reduceAdd, not_false_eq_true, not_true_eq_false, reduceCtorEq, Option.some.injEq, Int.reduceToNat, Int.reducePow, Int.reduceAdd, Int.reduceMul, Int.reduceSub, Int.reduceNeg, Int.reduceEq, List.nil_append, List.cons_append, ↓r_keep, ↓r_isExc, ↓r_indexM, ↓r_lstL, ↓r_eqF, ↓r_neF, ↓r_eqM, ↓r_neM, ↓r_isiFr, ↓r_eqB, ↓r_neB, beq_self_eq_true, ↓r_cutO, ↓r_cutOL, ↓r_cutOP])
  refine ⟨mulC bu bu, ?_⟩
  split
  · exact done
  rename_i hq
  have e1 : b * b - 4 * 1 * c = b * b - 4 * c := by omega
  have ns := nonsq u0 u1 u2 hq
  refine ⟨p, _, _, rfl, h3.put, by omega, by decide, by decide, fun s d4 s0 s1 h4 => ?_⟩
  (try simp only [↓r_wm1, ↓r_wm2, ↓r_wm3, ↓r_wm4, ↓r_forT, ↓r_forI, ↓r_fU0, ↓r_fU1, ↓r_turn, ↓r_yes, ↓r_ofrz, ↓r_oown, ↓r_w0, ↓r_w1, ↓r_w2, ↓r_w3, ↓r_w4, ↓r_lcT, ↓r_lcI, ↓r_lcR, ↓r_cU0, ↓r_cU1, ↓r_s0, ↓r_n0, ↓r_s1, ↓r_n1, ↓r_s2, ↓r_n2, ↓r_s3, ↓r_n3, ↓r_s4, ↓r_n4, ↓r_s5, ↓r_n5, ↓r_s6, ↓r_n6, ↓r_s7, ↓r_n7, ↓r_s8, ↓r_n8, ↓r_s9, ↓r_n9, ↓r_s10, ↓r_n10, ↓r_s11, ↓r_n11, ↓r_s12, ↓r_n12, ↓r_s13, ↓r_n13, ↓r_s14, ↓r_n14, ↓r_s15, ↓r_n15, ↓r_s16, ↓r_n16, ↓r_s17, ↓r_n17, ↓r_s18, ↓r_n18, ↓r_s19, ↓r_n19, ↓r_s20, ↓r_n20, ↓r_s21, ↓r_n21, ↓r_s22, ↓r_n22, ↓r_s23, ↓r_n23, ↓r_s24, ↓r_n24, ↓r_s25, ↓r_n25, ↓r_fr0, ↓r_fr1, ↓r_frL, ↓r_frN, ↓r_frNN, ↓r_max3, ↓r_seq, ↓r_next, ↓r_var0, ↓r_varS, ↓r_c, ↓r_op, ↓r_addI, ↓r_addS, ↓r_addT, ↓r_addL, ↓r_sub, ↓r_mul, ↓r_div, ↓r_mod, ↓r_pow, ↓r_lt, ↓r_le, ↓r_gt, ↓r_ge, ↓r_eqI, ↓r_neI, ↓r_isN, ↓r_isT, ↓r_isI, ↓r_isR, ↓r_inN, ↓r_inT, ↓r_inI, ↓r_ixT, ↓r_ixLs, ↓r_ixRo, ↓r_ixP, ↓r_at0, ↓r_at1, ↓r_at2, ↓r_at3, ↓r_neg, ↓r_negC, ↓r_b, ↓r_bl, ↓r_and, ↓r_or, ↓r_not, ↓r_andV, ↓r_orV, ↓r_notV, ↓r_bl', ↓r_if, ↓r_ifS, ↓r_asg, ↓r_name, ↓r_jnil, ↓r_jcons, ↓r_jtup, ↓r_jlst, ↓r_jlstP, ↓r_jsub, ↓r_jcut, ↓r_jcutP, ↓r_jcutA, ↓r_in2, ↓r_stP, ↓r_st0, ↓r_st1, ↓r_st2, ↓r_par, ↓r_ret, ↓r_retN, ↓r_drop, ↓r_brk, ↓r_cont, ↓r_raise, ↓r_nil, ↓r_cons, ↓r_tup, ↓r_lst, ↓r_new, ↓r_frz, ↓r_frzP, ↓r_cb, ↓r_call, ↓r_abs, ↓r_max, ↓r_min, ↓r_intI, ↓r_intB, ↓r_lenT, ↓r_lenL, ↓r_lenR, ↓r_lenP, ↓r_listL, ↓r_listR, ↓r_listOL, ↓r_tupleL, ↓r_tupleP, ↓r_isiII, ↓r_isiIB, ↓r_isiBI, ↓r_isiBB, ↓r_isiTT, ↓r_isiLL, ↓r_app, ↓r_appP, ↓r_clr, ↓r_clrP, ↓r_lstP, ↓r_cut, ↓r_onone, ↓r_osome, ↓r_int', ↓r_cutT, ↓r_cutLs, ↓r_cutP, ↓r_range1, ↓r_rg1, ↓rs0, ↓rsS, ↓ite_dec, ↓ite_ndec, ↓put_put, startD, List.length_cons, List.length_nil, and_assoc, and_true, true_and, and_self, or_self, or_false, false_or, or_true, true_or, decide_eq_true_eq, decide_true, decide_false, Bool.not_true, Bool.not_false, Bool.false_eq_true, if_true, if_false, ↓reduceIte, ne_eq, Nat.reduceLeDiff, Nat.reduceAdd, not_false_eq_true, not_true_eq_false, reduceCtorEq, Option.some.injEq, Int.reduceToNat, Int.reducePow, Int.reduceAdd, Int.reduceMul, Int.reduceSub, Int.reduceNeg, Int.reduceEq, List.nil_append, List.cons_append, ↓r_keep, ↓r_isExc, ↓r_indexM, ↓r_lstL, ↓r_eqF, ↓r_neF, ↓r_eqM, ↓r_neM, ↓r_isiFr, ↓r_eqB, ↓r_neB, beq_self_eq_true, ↓r_cutO, ↓r_cutOL, ↓r_cutOP])
  obtain ⟨k1, k2⟩ := prim_ok (a := 1) (s := s) (n := 70) (by decide) (by decide) (bb.mono (by decide)) (bc.mono (by decide)) (by omega) (by rw [e1]; omega) (by rw [e1]; exact ns)
  exact ⟨1, b, c, s, 70, rfl, by decide, by decide, bb.mono (by decide), bc.mono (by decide), by decide, by omega, by rw [e1]; omega, by rw [e1]; exact ns, h _ d4 k1 k2 h4.put⟩
def pr__law_of_curve : DSp := fun ds μ P _ => ∃ (u : Cur) (s : Int) (n : Nat), ds = [u.d, .int s] ∧ u.Ok n ∧ 0 < u.a.1 ∧ n ≤ 300 ∧ P (Mom.r (wcur u).a (wcur u).b (wcur u).c s).d μ
theorem len__law_of_curve : ∀ ds μ P PX, pr__law_of_curve ds μ P PX → ds.length = (["_law_curve", "_law_side"] : List Str).length := by
  rintro ds μ P PX ⟨u, s, n, rfl, _⟩
  rfl
theorem ok__law_of_curve {P : Program} {w : World} {K : PySem.W.Frag} {mg : Str → Option Value} {base : Heap} {f : Addr} {fd : FuncData} (F : Fun K "_law_of_curve" "_law_of_curve" s__law_of_curve f fd)
    (d__law_root_w : Df P w K mg base "_law_root" ["_law_a", "_law_b", "_law_c", "_law_side"] 2 pr__law_root_w) : FnOk P w K mg base (L2.CX P w) 3 f fd ["_law_curve", "_law_side"] (spD K pr__law_of_curve) := by
  have nd := sc__law_of_curve.nd
  refine fn_D (k := 2) F sc__law_of_curve len__law_of_curve (by decide) (fun cdv A outer s H E PX hr tk hp => ⟨_, (sd_cons (sd_set 2 nd (pd_mul (pd_mul (pd_ix (pd_ix (vr 0) pd_int) pd_int) (pd_ix (pd_ix (vr 0) pd_int) pd_int)) (pd_ix (pd_ix (vr 0) pd_int) pd_int)))
      (sd_cons (sd_asg (pd_lcT rfl nd out_frz (vr 0) (own := [("_law_part", 6)]) ⟨blkOk_by (own := [("_law_part", 6)]) (N := ["_law_curve", "_law_side", "_law_by_here", "_law_a", "_law_b", "_law_c", "_law_part"]) (sc := defScope s__law_of_curve) (by decide +kernel), fun _ _ _ _ _ => (pg_name (i := 6) nd rfl (by first | exact Or.inl rfl | exact Or.inr rfl)), (hv_name 6 (by decide)), fun _ _ _ _ _ => dts_nil, fun _ _ _ _ _ => (pd_mul (pd_ixK K (by rfl) (vr 6) pd_int) (pd_div (vr 2) (pd_ixK K (by rfl) (vr 6) pd_int)))⟩) (gd_lst (n := 3) rfl (gd_cons (gd_name 3 nd) (gd_cons (gd_name 4 nd) (gd_cons (gd_name 5 nd) gd_nil)))))
      (sd_one (sd_ret (pd_call d__law_root_w tk hr (by rfl) (da_cons (vr 3) (da_cons (vr 4) (da_cons (vr 5) (da_cons (vr 1) da_nil)))))))))⟩) ?_
  rintro ds μ P PX ⟨u, s, n, rfl, hu, hz, hn, h⟩
  have eA : (u.a.2 * u.b.2 * u.c.2).fdiv u.a.2 = u.b.2 * u.c.2 := by rw [Int.mul_assoc]; exact Int.mul_fdiv_cancel_left _ hu.fa.ne
  have eB : (u.a.2 * u.b.2 * u.c.2).fdiv u.b.2 = u.a.2 * u.c.2 := by
    rw [show u.a.2 * u.b.2 * u.c.2 = u.b.2 * (u.a.2 * u.c.2) by grind]
    exact Int.mul_fdiv_cancel_left _ hu.fb.ne
  have eC : (u.a.2 * u.b.2 * u.c.2).fdiv u.c.2 = u.a.2 * u.b.2 := by
    rw [show u.a.2 * u.b.2 * u.c.2 = u.c.2 * (u.a.2 * u.b.2) by grind]
    exact Int.mul_fdiv_cancel_left _ hu.fc.ne
  have vA : ∀ x, DivC x u.a.2 := fun x => divC hu.fa.ne hu.ba.2 (by omega)
  have vB : ∀ x, DivC x u.b.2 := fun x => divC hu.fb.ne hu.bb.2 (by omega)
  have vC : ∀ x, DivC x u.c.2 := fun x => divC hu.fc.ne hu.bc.2 (by omega)
  have m1 : MulC u.a.2 u.b.2 := mulC hu.ba.2 hu.bb.2 (by omega)
  have m2 : MulC (u.a.2 * u.b.2) u.c.2 := mulC (hu.ba.2.mul hu.bb.2) hu.bc.2 (by omega)
  have mA : MulC u.a.1 (u.b.2 * u.c.2) := mulC hu.ba.1 (hu.bb.2.mul hu.bc.2) (by omega)
  have mB : MulC u.b.1 (u.a.2 * u.c.2) := mulC hu.bb.1 (hu.ba.2.mul hu.bc.2) (by omega)
  have mC : MulC u.c.1 (u.a.2 * u.b.2) := mulC hu.bc.1 (hu.ba.2.mul hu.bb.2) (by omega)
  have b1 := (hu.ba.1.mul (hu.bb.2.mul hu.bc.2)).mono (show _ ≤ 1000 by omega)
  have b2 := (hu.bb.1.mul (hu.ba.2.mul hu.bc.2)).mono (show _ ≤ 1000 by omega)
  have b3 := (hu.bc.1.mul (hu.ba.2.mul hu.bb.2)).mono (show _ ≤ 1000 by omega)
  obtain ⟨_, e, _, s0⟩ := wcur_pos hu hz
  rw [e] at h
  unfold scal at h s0
  dsimp only at h s0
  unfold Cur.d
  (try simp only [↓r_wm1, ↓r_wm2, ↓r_wm3, ↓r_wm4, ↓r_forT, ↓r_forI, ↓r_fU0, ↓r_fU1, ↓r_turn, ↓r_yes, ↓r_ofrz, ↓r_oown, ↓r_w0, ↓r_w1, ↓r_w2, ↓r_w3, ↓r_w4, ↓r_lcT, ↓r_lcI, ↓r_lcR, ↓r_cU0, ↓r_cU1, ↓r_s0, ↓r_n0, ↓r_s1, ↓r_n1, ↓r_s2, ↓r_n2, ↓r_s3, ↓r_n3, ↓r_s4, ↓r_n4, ↓r_s5, ↓r_n5, ↓r_s6, ↓r_n6, ↓r_s7, ↓r_n7, ↓r_s8, ↓r_n8, ↓r_s9, ↓r_n9, ↓r_s10, ↓r_n10, ↓r_s11, ↓r_n11, ↓r_s12, ↓r_n12, ↓r_s13, ↓r_n13, ↓r_s14, ↓r_n14, ↓r_s15, ↓r_n15, ↓r_s16, ↓r_n16, ↓r_s17, ↓r_n17, ↓r_s18, ↓r_n18, ↓r_s19, ↓r_n19, ↓r_s20, ↓r_n20, ↓r_s21, ↓r_n21, ↓r_s22, ↓r_n22, ↓r_s23, ↓r_n23, ↓r_s24, ↓r_n24, ↓r_s25, ↓r_n25, ↓r_fr0, ↓r_fr1, ↓r_frL, ↓r_frN, ↓r_frNN, ↓r_max3, ↓r_seq, ↓r_next, ↓r_var0, ↓r_varS, ↓r_c, ↓r_op, ↓r_addI, ↓r_addS, ↓r_addT, ↓r_addL, ↓r_sub, ↓r_mul, ↓r_div, ↓r_mod, ↓r_pow, ↓r_lt, ↓r_le, ↓r_gt, ↓r_ge, ↓r_eqI, ↓r_neI, ↓r_isN, ↓r_isT, ↓r_isI, ↓r_isR, ↓r_inN, ↓r_inT, ↓r_inI, ↓r_ixT, ↓r_ixLs, ↓r_ixRo, ↓r_ixP, ↓r_at0, ↓r_at1, ↓r_at2, ↓r_at3, ↓r_neg, ↓r_negC, ↓r_b, ↓r_bl, ↓r_and, ↓r_or, ↓r_not, ↓r_andV, ↓r_orV, ↓r_notV, ↓r_bl', ↓r_if, ↓r_ifS, ↓r_asg, ↓r_name, ↓r_jnil, ↓r_jcons, ↓r_jtup, ↓r_jlst, ↓r_jlstP, ↓r_jsub, ↓r_jcut, ↓r_jcutP, ↓r_jcutA, ↓r_in2, ↓r_stP, ↓r_st0, ↓r_st1, ↓r_st2, ↓r_par, ↓r_ret, ↓r_retN, ↓r_drop, ↓r_brk, ↓r_cont, ↓r_raise, ↓r_nil, ↓r_cons, ↓r_tup, ↓r_lst, ↓r_new, ↓r_frz, ↓r_frzP, ↓r_cb, ↓r_call, ↓r_abs, ↓r_max, ↓r_min, ↓r_intI, ↓r_intB, ↓r_lenT, ↓r_lenL, ↓r_lenR, ↓r_lenP, ↓r_listL, ↓r_listR, ↓r_listOL, ↓r_tupleL, ↓r_tupleP, ↓r_isiII, ↓r_isiIB, ↓r_isiBI, ↓r_isiBB, ↓r_isiTT, ↓r_isiLL, ↓r_app, ↓r_appP, ↓r_clr, ↓r_clrP, ↓r_lstP, ↓r_cut, ↓r_onone, ↓r_osome, ↓r_int', ↓r_cutT, ↓r_cutLs, ↓r_cutP, ↓r_range1, ↓r_rg1, ↓rs0, ↓rsS, ↓ite_dec, ↓ite_ndec, ↓put_put, startD, List.length_cons, List.length_nil, and_assoc, and_true, true_and, and_self, or_self, or_false, false_or, or_true, true_or, decide_eq_true_eq, decide_true, decide_false, Bool.not_true, Bool.not_false, Bool.false_eq_true, if_true, if_false, ↓reduceIte, ne_eq, Nat.reduceLeDiff, Nat.reduceAdd, not_false_eq_true, not_true_eq_false, reduceCtorEq, Option.some.injEq, Int.reduceToNat, Int.reducePow, Int.reduceAdd, Int.reduceMul, Int.reduceSub, Int.reduceNeg, Int.reduceEq, List.nil_append, List.cons_append, ↓r_keep, ↓r_isExc, ↓r_indexM, ↓r_lstL, ↓r_eqF, ↓r_neF, ↓r_eqM, ↓r_neM, ↓r_isiFr, ↓r_eqB, ↓r_neB, beq_self_eq_true, ↓r_cutO, ↓r_cutOL, ↓r_cutOP, m1, m2])
  refine lcT_u (by simp) ?_
  (try simp only [↓r_wm1, ↓r_wm2, ↓r_wm3, ↓r_wm4, ↓r_forT, ↓r_forI, ↓r_fU0, ↓r_fU1, ↓r_turn, ↓r_yes, ↓r_ofrz, ↓r_oown, ↓r_w0, ↓r_w1, ↓r_w2, ↓r_w3, ↓r_w4, ↓r_lcT, ↓r_lcI, ↓r_lcR, ↓r_cU0, ↓r_cU1, ↓r_s0, ↓r_n0, ↓r_s1, ↓r_n1, ↓r_s2, ↓r_n2, ↓r_s3, ↓r_n3, ↓r_s4, ↓r_n4, ↓r_s5, ↓r_n5, ↓r_s6, ↓r_n6, ↓r_s7, ↓r_n7, ↓r_s8, ↓r_n8, ↓r_s9, ↓r_n9, ↓r_s10, ↓r_n10, ↓r_s11, ↓r_n11, ↓r_s12, ↓r_n12, ↓r_s13, ↓r_n13, ↓r_s14, ↓r_n14, ↓r_s15, ↓r_n15, ↓r_s16, ↓r_n16, ↓r_s17, ↓r_n17, ↓r_s18, ↓r_n18, ↓r_s19, ↓r_n19, ↓r_s20, ↓r_n20, ↓r_s21, ↓r_n21, ↓r_s22, ↓r_n22, ↓r_s23, ↓r_n23, ↓r_s24, ↓r_n24, ↓r_s25, ↓r_n25, ↓r_fr0, ↓r_fr1, ↓r_frL, ↓r_frN, ↓r_frNN, ↓r_max3, ↓r_seq, ↓r_next, ↓r_var0, ↓r_varS, ↓r_c, ↓r_op, ↓r_addI, ↓r_addS, ↓r_addT, ↓r_addL, ↓r_sub, ↓r_mul, ↓r_div, ↓r_mod, ↓r_pow, ↓r_lt, ↓r_le, ↓r_gt, ↓r_ge, ↓r_eqI, ↓r_neI, ↓r_isN, ↓r_isT, ↓r_isI, ↓r_isR, ↓r_inN, ↓r_inT, ↓r_inI, ↓r_ixT, ↓r_ixLs, ↓r_ixRo, ↓r_ixP, ↓r_at0, ↓r_at1, ↓r_at2, ↓r_at3, ↓r_neg, ↓r_negC, ↓r_b, ↓r_bl, ↓r_and, ↓r_or, ↓r_not, ↓r_andV, ↓r_orV, ↓r_notV, ↓r_bl', ↓r_if, ↓r_ifS, ↓r_asg, ↓r_name, ↓r_jnil, ↓r_jcons, ↓r_jtup, ↓r_jlst, ↓r_jlstP, ↓r_jsub, ↓r_jcut, ↓r_jcutP, ↓r_jcutA, ↓r_in2, ↓r_stP, ↓r_st0, ↓r_st1, ↓r_st2, ↓r_par, ↓r_ret, ↓r_retN, ↓r_drop, ↓r_brk, ↓r_cont, ↓r_raise, ↓r_nil, ↓r_cons, ↓r_tup, ↓r_lst, ↓r_new, ↓r_frz, ↓r_frzP, ↓r_cb, ↓r_call, ↓r_abs, ↓r_max, ↓r_min, ↓r_intI, ↓r_intB, ↓r_lenT, ↓r_lenL, ↓r_lenR, ↓r_lenP, ↓r_listL, ↓r_listR, ↓r_listOL, ↓r_tupleL, ↓r_tupleP, ↓r_isiII, ↓r_isiIB, ↓r_isiBI, ↓r_isiBB, ↓r_isiTT, ↓r_isiLL, ↓r_app, ↓r_appP, ↓r_clr, ↓r_clrP, ↓r_lstP, ↓r_cut, ↓r_onone, ↓r_osome, ↓r_int', ↓r_cutT, ↓r_cutLs, ↓r_cutP, ↓r_range1, ↓r_rg1, ↓rs0, ↓rsS, ↓ite_dec, ↓ite_ndec, ↓put_put, startD, List.length_cons, List.length_nil, and_assoc, and_true, true_and, and_self, or_self, or_false, false_or, or_true, true_or, decide_eq_true_eq, decide_true, decide_false, Bool.not_true, Bool.not_false, Bool.false_eq_true, if_true, if_false, ↓reduceIte, ne_eq, Nat.reduceLeDiff, Nat.reduceAdd, not_false_eq_true, not_true_eq_false, reduceCtorEq, Option.some.injEq, Int.reduceToNat, Int.reducePow, Int.reduceAdd, Int.reduceMul, Int.reduceSub, Int.reduceNeg, Int.reduceEq, List.nil_append, List.cons_append, ↓r_keep, ↓r_isExc, ↓r_indexM, ↓r_lstL, ↓r_eqF, ↓r_neF, ↓r_eqM, ↓r_neM, ↓r_isiFr, ↓r_eqB, ↓r_neB, beq_self_eq_true, ↓r_cutO, ↓r_cutOL, ↓r_cutOP, vA, vB, vC, eA, eB, eC, mA, mB, mC])
  exact ⟨_, _, _, s, 1000, rfl, s0, b1, b2, b3, by decide, h⟩
def pr_worth_at : DSp := fun ds μ P _ => ∃ (u : Cur) (x : Int × Int) (n : Nat), ds = [u.d, fr x] ∧ u.Ok n ∧ Fr x ∧ FB n x ∧ n ≤ 700 ∧ P (fr (worth u x)) μ
theorem len_worth_at : ∀ ds μ P PX, pr_worth_at ds μ P PX → ds.length = (["curve", "x"] : List Str).length := by
  rintro ds μ P PX ⟨u, x, n, rfl, _⟩
  rfl
theorem ok_worth_at {P : Program} {w : World} {K : PySem.W.Frag} {mg : Str → Option Value} {base : Heap} {f : Addr} {fd : FuncData} (F : Fun K "worth_at" "worth_at" s_worth_at f fd)
    (d_plus : Df P w K mg base "plus" ["one", "two"] 3 pr_plus)
    (d_times : Df P w K mg base "times" ["one", "two"] 3 pr_times) : FnOk P w K mg base (L2.CX P w) 4 f fd ["curve", "x"] (spD K pr_worth_at) := by
  have nd := sc_worth_at.nd
  refine fn_D (k := 3) F sc_worth_at len_worth_at (by decide) (fun cdv A outer s H E PX hr tk hp => ⟨_, (sd_cons (sd_asg (vr 0) (gd_tup (n := 3) rfl (gd_cons (gd_name 2 nd) (gd_cons (gd_name 3 nd) (gd_cons (gd_name 4 nd) gd_nil)))))
      (sd_one (sd_ret (pd_call d_plus tk hr (by rfl) (da_cons (pd_call d_times tk hr (by rfl) (da_cons (pd_call d_plus tk hr (by rfl) (da_cons (pd_call d_times tk hr (by rfl) (da_cons (vr 2) (da_cons (vr 1) da_nil))) (da_cons (vr 3) da_nil))) (da_cons (vr 1) da_nil))) (da_cons (vr 4) da_nil))))))⟩) ?_
  rintro ds μ P PX ⟨u, x, n, rfl, hu, hx, bx, hn, h⟩
  simp only [Cur.d]
  have b1 := fmul_bd hu.fa hx hu.ba bx
  have c1 := fmul_can hu.fa hx
  have b2 := fadd_bd c1 hu.fb b1 hu.bb
  have c2 := fadd_can c1 hu.fb
  have b3 := fmul_bd c2 hx b2 bx
  have c3 := fmul_can c2 hx
  (try simp only [↓r_wm1, ↓r_wm2, ↓r_wm3, ↓r_wm4, ↓r_forT, ↓r_forI, ↓r_fU0, ↓r_fU1, ↓r_turn, ↓r_yes, ↓r_ofrz, ↓r_oown, ↓r_w0, ↓r_w1, ↓r_w2, ↓r_w3, ↓r_w4, ↓r_lcT, ↓r_lcI, ↓r_lcR, ↓r_cU0, ↓r_cU1, ↓r_s0, ↓r_n0, ↓r_s1, ↓r_n1, ↓r_s2, ↓r_n2, ↓r_s3, ↓r_n3, ↓r_s4, ↓r_n4, ↓r_s5, ↓r_n5, ↓r_s6, ↓r_n6, ↓r_s7, ↓r_n7, ↓r_s8, ↓r_n8, ↓r_s9, ↓r_n9, ↓r_s10, ↓r_n10, ↓r_s11, ↓r_n11, ↓r_s12, ↓r_n12, ↓r_s13, ↓r_n13, ↓r_s14, ↓r_n14, ↓r_s15, ↓r_n15, ↓r_s16, ↓r_n16, ↓r_s17, ↓r_n17, ↓r_s18, ↓r_n18, ↓r_s19, ↓r_n19, ↓r_s20, ↓r_n20, ↓r_s21, ↓r_n21, ↓r_s22, ↓r_n22, ↓r_s23, ↓r_n23, ↓r_s24, ↓r_n24, ↓r_s25, ↓r_n25, ↓r_fr0, ↓r_fr1, ↓r_frL, ↓r_frN, ↓r_frNN, ↓r_max3, ↓r_seq, ↓r_next, ↓r_var0, ↓r_varS, ↓r_c, ↓r_op, ↓r_addI, ↓r_addS, ↓r_addT, ↓r_addL, ↓r_sub, ↓r_mul, ↓r_div, ↓r_mod, ↓r_pow, ↓r_lt, ↓r_le, ↓r_gt, ↓r_ge, ↓r_eqI, ↓r_neI, ↓r_isN, ↓r_isT, ↓r_isI, ↓r_isR, ↓r_inN, ↓r_inT, ↓r_inI, ↓r_ixT, ↓r_ixLs, ↓r_ixRo, ↓r_ixP, ↓r_at0, ↓r_at1, ↓r_at2, ↓r_at3, ↓r_neg, ↓r_negC, ↓r_b, ↓r_bl, ↓r_and, ↓r_or, ↓r_not, ↓r_andV, ↓r_orV, ↓r_notV, ↓r_bl', ↓r_if, ↓r_ifS, ↓r_asg, ↓r_name, ↓r_jnil, ↓r_jcons, ↓r_jtup, ↓r_jlst, ↓r_jlstP, ↓r_jsub, ↓r_jcut, ↓r_jcutP, ↓r_jcutA, ↓r_in2, ↓r_stP, ↓r_st0, ↓r_st1, ↓r_st2, ↓r_par, ↓r_ret, ↓r_retN, ↓r_drop, ↓r_brk, ↓r_cont, ↓r_raise, ↓r_nil, ↓r_cons, ↓r_tup, ↓r_lst, ↓r_new, ↓r_frz, ↓r_frzP, ↓r_cb, ↓r_call, ↓r_abs, ↓r_max, ↓r_min, ↓r_intI, ↓r_intB, ↓r_lenT, ↓r_lenL, ↓r_lenR, ↓r_lenP, ↓r_listL, ↓r_listR, ↓r_listOL, ↓r_tupleL, ↓r_tupleP, ↓r_isiII, ↓r_isiIB, ↓r_isiBI, ↓r_isiBB, ↓r_isiTT, ↓r_isiLL, ↓r_app, ↓r_appP, ↓r_clr, ↓r_clrP, ↓r_lstP, ↓r_cut, ↓r_onone, ↓r_osome, ↓r_int', ↓r_cutT, ↓r_cutLs, ↓r_cutP, ↓r_range1, ↓r_rg1, ↓rs0, ↓rsS, ↓ite_dec, ↓ite_ndec, ↓put_put, startD, List.length_cons, List.length_nil, and_assoc, and_true, true_and, and_self, or_self, or_false, false_or, or_true, true_or, decide_eq_true_eq, decide_true, decide_false, Bool.not_true, Bool.not_false, Bool.false_eq_true, if_true, if_false, ↓reduceIte, ne_eq, Nat.reduceLeDiff, Nat.reduceAdd, not_false_eq_true, not_true_eq_false, reduceCtorEq, Option.some.injEq, Int.reduceToNat, Int.reducePow, Int.reduceAdd, Int.reduceMul, Int.reduceSub, Int.reduceNeg, Int.reduceEq, List.nil_append, List.cons_append, ↓r_keep, ↓r_isExc, ↓r_indexM, ↓r_lstL, ↓r_eqF, ↓r_neF, ↓r_eqM, ↓r_neM, ↓r_isiFr, ↓r_eqB, ↓r_neB, beq_self_eq_true, ↓r_cutO, ↓r_cutOL, ↓r_cutOP])
  refine ⟨_, _, n, rfl, hu.fa, hx, hu.ba, bx, by omega, ?_⟩
  (try simp only [↓r_wm1, ↓r_wm2, ↓r_wm3, ↓r_wm4, ↓r_forT, ↓r_forI, ↓r_fU0, ↓r_fU1, ↓r_turn, ↓r_yes, ↓r_ofrz, ↓r_oown, ↓r_w0, ↓r_w1, ↓r_w2, ↓r_w3, ↓r_w4, ↓r_lcT, ↓r_lcI, ↓r_lcR, ↓r_cU0, ↓r_cU1, ↓r_s0, ↓r_n0, ↓r_s1, ↓r_n1, ↓r_s2, ↓r_n2, ↓r_s3, ↓r_n3, ↓r_s4, ↓r_n4, ↓r_s5, ↓r_n5, ↓r_s6, ↓r_n6, ↓r_s7, ↓r_n7, ↓r_s8, ↓r_n8, ↓r_s9, ↓r_n9, ↓r_s10, ↓r_n10, ↓r_s11, ↓r_n11, ↓r_s12, ↓r_n12, ↓r_s13, ↓r_n13, ↓r_s14, ↓r_n14, ↓r_s15, ↓r_n15, ↓r_s16, ↓r_n16, ↓r_s17, ↓r_n17, ↓r_s18, ↓r_n18, ↓r_s19, ↓r_n19, ↓r_s20, ↓r_n20, ↓r_s21, ↓r_n21, ↓r_s22, ↓r_n22, ↓r_s23, ↓r_n23, ↓r_s24, ↓r_n24, ↓r_s25, ↓r_n25, ↓r_fr0, ↓r_fr1, ↓r_frL, ↓r_frN, ↓r_frNN, ↓r_max3, ↓r_seq, ↓r_next, ↓r_var0, ↓r_varS, ↓r_c, ↓r_op, ↓r_addI, ↓r_addS, ↓r_addT, ↓r_addL, ↓r_sub, ↓r_mul, ↓r_div, ↓r_mod, ↓r_pow, ↓r_lt, ↓r_le, ↓r_gt, ↓r_ge, ↓r_eqI, ↓r_neI, ↓r_isN, ↓r_isT, ↓r_isI, ↓r_isR, ↓r_inN, ↓r_inT, ↓r_inI, ↓r_ixT, ↓r_ixLs, ↓r_ixRo, ↓r_ixP, ↓r_at0, ↓r_at1, ↓r_at2, ↓r_at3, ↓r_neg, ↓r_negC, ↓r_b, ↓r_bl, ↓r_and, ↓r_or, ↓r_not, ↓r_andV, ↓r_orV, ↓r_notV, ↓r_bl', ↓r_if, ↓r_ifS, ↓r_asg, ↓r_name, ↓r_jnil, ↓r_jcons, ↓r_jtup, ↓r_jlst, ↓r_jlstP, ↓r_jsub, ↓r_jcut, ↓r_jcutP, ↓r_jcutA, ↓r_in2, ↓r_stP, ↓r_st0, ↓r_st1, ↓r_st2, ↓r_par, ↓r_ret, ↓r_retN, ↓r_drop, ↓r_brk, ↓r_cont, ↓r_raise, ↓r_nil, ↓r_cons, ↓r_tup, ↓r_lst, ↓r_new, ↓r_frz, ↓r_frzP, ↓r_cb, ↓r_call, ↓r_abs, ↓r_max, ↓r_min, ↓r_intI, ↓r_intB, ↓r_lenT, ↓r_lenL, ↓r_lenR, ↓r_lenP, ↓r_listL, ↓r_listR, ↓r_listOL, ↓r_tupleL, ↓r_tupleP, ↓r_isiII, ↓r_isiIB, ↓r_isiBI, ↓r_isiBB, ↓r_isiTT, ↓r_isiLL, ↓r_app, ↓r_appP, ↓r_clr, ↓r_clrP, ↓r_lstP, ↓r_cut, ↓r_onone, ↓r_osome, ↓r_int', ↓r_cutT, ↓r_cutLs, ↓r_cutP, ↓r_range1, ↓r_rg1, ↓rs0, ↓rsS, ↓ite_dec, ↓ite_ndec, ↓put_put, startD, List.length_cons, List.length_nil, and_assoc, and_true, true_and, and_self, or_self, or_false, false_or, or_true, true_or, decide_eq_true_eq, decide_true, decide_false, Bool.not_true, Bool.not_false, Bool.false_eq_true, if_true, if_false, ↓reduceIte, ne_eq, Nat.reduceLeDiff, Nat.reduceAdd, not_false_eq_true, not_true_eq_false, reduceCtorEq, Option.some.injEq, Int.reduceToNat, Int.reducePow, Int.reduceAdd, Int.reduceMul, Int.reduceSub, Int.reduceNeg, Int.reduceEq, List.nil_append, List.cons_append, ↓r_keep, ↓r_isExc, ↓r_indexM, ↓r_lstL, ↓r_eqF, ↓r_neF, ↓r_eqM, ↓r_neM, ↓r_isiFr, ↓r_eqB, ↓r_neB, beq_self_eq_true, ↓r_cutO, ↓r_cutOL, ↓r_cutOP])
  refine ⟨_, _, n + n, rfl, c1, hu.fb, b1, hu.bb.mono (by omega), by omega, ?_⟩
  (try simp only [↓r_wm1, ↓r_wm2, ↓r_wm3, ↓r_wm4, ↓r_forT, ↓r_forI, ↓r_fU0, ↓r_fU1, ↓r_turn, ↓r_yes, ↓r_ofrz, ↓r_oown, ↓r_w0, ↓r_w1, ↓r_w2, ↓r_w3, ↓r_w4, ↓r_lcT, ↓r_lcI, ↓r_lcR, ↓r_cU0, ↓r_cU1, ↓r_s0, ↓r_n0, ↓r_s1, ↓r_n1, ↓r_s2, ↓r_n2, ↓r_s3, ↓r_n3, ↓r_s4, ↓r_n4, ↓r_s5, ↓r_n5, ↓r_s6, ↓r_n6, ↓r_s7, ↓r_n7, ↓r_s8, ↓r_n8, ↓r_s9, ↓r_n9, ↓r_s10, ↓r_n10, ↓r_s11, ↓r_n11, ↓r_s12, ↓r_n12, ↓r_s13, ↓r_n13, ↓r_s14, ↓r_n14, ↓r_s15, ↓r_n15, ↓r_s16, ↓r_n16, ↓r_s17, ↓r_n17, ↓r_s18, ↓r_n18, ↓r_s19, ↓r_n19, ↓r_s20, ↓r_n20, ↓r_s21, ↓r_n21, ↓r_s22, ↓r_n22, ↓r_s23, ↓r_n23, ↓r_s24, ↓r_n24, ↓r_s25, ↓r_n25, ↓r_fr0, ↓r_fr1, ↓r_frL, ↓r_frN, ↓r_frNN, ↓r_max3, ↓r_seq, ↓r_next, ↓r_var0, ↓r_varS, ↓r_c, ↓r_op, ↓r_addI, ↓r_addS, ↓r_addT, ↓r_addL, ↓r_sub, ↓r_mul, ↓r_div, ↓r_mod, ↓r_pow, ↓r_lt, ↓r_le, ↓r_gt, ↓r_ge, ↓r_eqI, ↓r_neI, ↓r_isN, ↓r_isT, ↓r_isI, ↓r_isR, ↓r_inN, ↓r_inT, ↓r_inI, ↓r_ixT, ↓r_ixLs, ↓r_ixRo, ↓r_ixP, ↓r_at0, ↓r_at1, ↓r_at2, ↓r_at3, ↓r_neg, ↓r_negC, ↓r_b, ↓r_bl, ↓r_and, ↓r_or, ↓r_not, ↓r_andV, ↓r_orV, ↓r_notV, ↓r_bl', ↓r_if, ↓r_ifS, ↓r_asg, ↓r_name, ↓r_jnil, ↓r_jcons, ↓r_jtup, ↓r_jlst, ↓r_jlstP, ↓r_jsub, ↓r_jcut, ↓r_jcutP, ↓r_jcutA, ↓r_in2, ↓r_stP, ↓r_st0, ↓r_st1, ↓r_st2, ↓r_par, ↓r_ret, ↓r_retN, ↓r_drop, ↓r_brk, ↓r_cont, ↓r_raise, ↓r_nil, ↓r_cons, ↓r_tup, ↓r_lst, ↓r_new, ↓r_frz, ↓r_frzP, ↓r_cb, ↓r_call, ↓r_abs, ↓r_max, ↓r_min, ↓r_intI, ↓r_intB, ↓r_lenT, ↓r_lenL, ↓r_lenR, ↓r_lenP, ↓r_listL, ↓r_listR, ↓r_listOL, ↓r_tupleL, ↓r_tupleP, ↓r_isiII, ↓r_isiIB, ↓r_isiBI, ↓r_isiBB, ↓r_isiTT, ↓r_isiLL, ↓r_app, ↓r_appP, ↓r_clr, ↓r_clrP, ↓r_lstP, ↓r_cut, ↓r_onone, ↓r_osome, ↓r_int', ↓r_cutT, ↓r_cutLs, ↓r_cutP, ↓r_range1, ↓r_rg1, ↓rs0, ↓rsS, ↓ite_dec, ↓ite_ndec, ↓put_put, startD, List.length_cons, List.length_nil, and_assoc, and_true, true_and, and_self, or_self, or_false, false_or, or_true, true_or, decide_eq_true_eq, decide_true, decide_false, Bool.not_true, Bool.not_false, Bool.false_eq_true, if_true, if_false, ↓reduceIte, ne_eq, Nat.reduceLeDiff, Nat.reduceAdd, not_false_eq_true, not_true_eq_false, reduceCtorEq, Option.some.injEq, Int.reduceToNat, Int.reducePow, Int.reduceAdd, Int.reduceMul, Int.reduceSub, Int.reduceNeg, Int.reduceEq, List.nil_append, List.cons_append, ↓r_keep, ↓r_isExc, ↓r_indexM, ↓r_lstL, ↓r_eqF, ↓r_neF, ↓r_eqM, ↓r_neM, ↓r_isiFr, ↓r_eqB, ↓r_neB, beq_self_eq_true, ↓r_cutO, ↓r_cutOL, ↓r_cutOP])
  refine ⟨_, _, n + n + n + 1, rfl, c2, hx, b2, bx.mono (by omega), by omega, ?_⟩
  (try simp only [↓r_wm1, ↓r_wm2, ↓r_wm3, ↓r_wm4, ↓r_forT, ↓r_forI, ↓r_fU0, ↓r_fU1, ↓r_turn, ↓r_yes, ↓r_ofrz, ↓r_oown, ↓r_w0, ↓r_w1, ↓r_w2, ↓r_w3, ↓r_w4, ↓r_lcT, ↓r_lcI, ↓r_lcR, ↓r_cU0, ↓r_cU1, ↓r_s0, ↓r_n0, ↓r_s1, ↓r_n1, ↓r_s2, ↓r_n2, ↓r_s3, ↓r_n3, ↓r_s4, ↓r_n4, ↓r_s5, ↓r_n5, ↓r_s6, ↓r_n6, ↓r_s7, ↓r_n7, ↓r_s8, ↓r_n8, ↓r_s9, ↓r_n9, ↓r_s10, ↓r_n10, ↓r_s11, ↓r_n11, ↓r_s12, ↓r_n12, ↓r_s13, ↓r_n13, ↓r_s14, ↓r_n14, ↓r_s15, ↓r_n15, ↓r_s16, ↓r_n16, ↓r_s17, ↓r_n17, ↓r_s18, ↓r_n18, ↓r_s19, ↓r_n19, ↓r_s20, ↓r_n20, ↓r_s21, ↓r_n21, ↓r_s22, ↓r_n22, ↓r_s23, ↓r_n23, ↓r_s24, ↓r_n24, ↓r_s25, ↓r_n25, ↓r_fr0, ↓r_fr1, ↓r_frL, ↓r_frN, ↓r_frNN, ↓r_max3, ↓r_seq, ↓r_next, ↓r_var0, ↓r_varS, ↓r_c, ↓r_op, ↓r_addI, ↓r_addS, ↓r_addT, ↓r_addL, ↓r_sub, ↓r_mul, ↓r_div, ↓r_mod, ↓r_pow, ↓r_lt, ↓r_le, ↓r_gt, ↓r_ge, ↓r_eqI, ↓r_neI, ↓r_isN, ↓r_isT, ↓r_isI, ↓r_isR, ↓r_inN, ↓r_inT, ↓r_inI, ↓r_ixT, ↓r_ixLs, ↓r_ixRo, ↓r_ixP, ↓r_at0, ↓r_at1, ↓r_at2, ↓r_at3, ↓r_neg, ↓r_negC, ↓r_b, ↓r_bl, ↓r_and, ↓r_or, ↓r_not, ↓r_andV, ↓r_orV, ↓r_notV, ↓r_bl', ↓r_if, ↓r_ifS, ↓r_asg, ↓r_name, ↓r_jnil, ↓r_jcons, ↓r_jtup, ↓r_jlst, ↓r_jlstP, ↓r_jsub, ↓r_jcut, ↓r_jcutP, ↓r_jcutA, ↓r_in2, ↓r_stP, ↓r_st0, ↓r_st1, ↓r_st2, ↓r_par, ↓r_ret, ↓r_retN, ↓r_drop, ↓r_brk, ↓r_cont, ↓r_raise, ↓r_nil, ↓r_cons, ↓r_tup, ↓r_lst, ↓r_new, ↓r_frz, ↓r_frzP, ↓r_cb, ↓r_call, ↓r_abs, ↓r_max, ↓r_min, ↓r_intI, ↓r_intB, ↓r_lenT, ↓r_lenL, ↓r_lenR, ↓r_lenP, ↓r_listL, ↓r_listR, ↓r_listOL, ↓r_tupleL, ↓r_tupleP, ↓r_isiII, ↓r_isiIB, ↓r_isiBI, ↓r_isiBB, ↓r_isiTT, ↓r_isiLL, ↓r_app, ↓r_appP, ↓r_clr, ↓r_clrP, ↓r_lstP, ↓r_cut, ↓r_onone, ↓r_osome, ↓r_int', ↓r_cutT, ↓r_cutLs, ↓r_cutP, ↓r_range1, ↓r_rg1, ↓rs0, ↓rsS, ↓ite_dec, ↓ite_ndec, ↓put_put, startD, List.length_cons, List.length_nil, and_assoc, and_true, true_and, and_self, or_self, or_false, false_or, or_true, true_or, decide_eq_true_eq, decide_true, decide_false, Bool.not_true, Bool.not_false, Bool.false_eq_true, if_true, if_false, ↓reduceIte, ne_eq, Nat.reduceLeDiff, Nat.reduceAdd, not_false_eq_true, not_true_eq_false, reduceCtorEq, Option.some.injEq, Int.reduceToNat, Int.reducePow, Int.reduceAdd, Int.reduceMul, Int.reduceSub, Int.reduceNeg, Int.reduceEq, List.nil_append, List.cons_append, ↓r_keep, ↓r_isExc, ↓r_indexM, ↓r_lstL, ↓r_eqF, ↓r_neF, ↓r_eqM, ↓r_neM, ↓r_isiFr, ↓r_eqB, ↓r_neB, beq_self_eq_true, ↓r_cutO, ↓r_cutOL, ↓r_cutOP])
  exact ⟨_, _, n + n + n + 1 + n, rfl, c3, hu.fc, b3, hu.bc.mono (by omega), by omega, h⟩
def pr_grown_by_x (e : Addr) : DSp := fun ds μ P PX => ∃ (m : Mom) (q : Int × Int) (n : Nat), ds = [m.d, fr q] ∧ m.Ok n ∧ Fr q ∧ FB n q ∧ n ≤ 600 ∧ (q.1 ≠ 0 → P (grwM m q).d μ) ∧ (q.1 = 0 → PX (.ref e) none μ)
theorem len_grown_by_x {e : Addr} : ∀ ds μ P PX, pr_grown_by_x e ds μ P PX → ds.length = (["moment", "by"] : List Str).length := by
  rintro ds μ P PX ⟨m, q, n, rfl, _⟩
  rfl
theorem ok_grown_by_x {P : Program} {w : World} {K : PySem.W.Frag} {mg : Str → Option Value} {base : Heap} {f : Addr} {fd : FuncData} {a_NoFraction : Addr} (x_NoFraction : ExcK K mg "NoFraction" a_NoFraction)
    (F : Fun K "grown_by" "grown_by" s_grown_by f fd)
    (d_is_root : Df P w K mg base "is_root" ["moment"] 1 pr_is_root)
    (d_times : Df P w K mg base "times" ["one", "two"] 3 pr_times)
    (d_fractions_of : Df P w K mg base "fractions_of" ["numbers"] 1 pr_fractions_of)
    (d_told_root : Df P w K mg base "told_root" ["curve", "side"] 3 pr_told_root)
    (c_NOUGHT : CG K mg "NOUGHT" cv_NOUGHT) : FnOk P w K mg base (L2.CX P w) 4 f fd ["moment", "by"] (spD K (pr_grown_by_x a_NoFraction)) := by
  have nd := sc_grown_by.nd
  refine fn_D (k := 3) F sc_grown_by len_grown_by_x (by decide) (fun cdv A outer s H E PX hr tk hp => ⟨_, (sd_cons (sd_if (pt_eq hr.units (vr 1) (pd_const (by rfl) c_NOUGHT))
       (sd_one (sd_raise rfl tk x_NoFraction rfl))
       sd_nil)
      (sd_cons (sd_if (pt_n (pt_b (pd_call d_is_root tk hr (by rfl) (da_cons (vr 0) da_nil))))
       (sd_one (sd_ret (pd_call d_times tk hr (by rfl) (da_cons (vr 0) (da_cons (vr 1) da_nil)))))
       sd_nil)
      (sd_cons (sd_asg (pd_call d_fractions_of tk hr (by rfl) (da_cons (pd_cut (vr 0) do_none (do_some pd_int)) da_nil)) (gd_tup (n := 3) rfl (gd_cons (gd_name 2 nd) (gd_cons (gd_name 3 nd) (gd_cons (gd_name 4 nd) gd_nil)))))
      (sd_cons (sd_set 5 nd (pd_ix (vr 0) pd_int))
      (sd_cut (sd_if (pt_lt (pd_ix (vr 1) pd_int) pd_int)
       (sd_one (sd_set 5 nd (pd_sub pd_int (vr 5))))
       sd_nil)
      (sd_one (sd_ret (pd_call d_told_root tk hr (by rfl) (da_cons (pd_tup (da_cons (vr 2) (da_cons (pd_call d_times tk hr (by rfl) (da_cons (vr 3) (da_cons (vr 1) da_nil))) (da_cons (pd_call d_times tk hr (by rfl) (da_cons (vr 4) (da_cons (pd_call d_times tk hr (by rfl) (da_cons (vr 1) (da_cons (vr 1) da_nil))) da_nil))) da_nil)))) (da_cons (vr 5) da_nil))))))))))⟩) ?_
  rintro ds μ P PX ⟨m, q, n, rfl, hm, hq, bq, hn, h, h'⟩
  by_cases q0 : q.1 = 0
  · (try simp only [↓r_wm1, ↓r_wm2, ↓r_wm3, ↓r_wm4, ↓r_forT, ↓r_forI, ↓r_fU0, ↓r_fU1, ↓r_turn, ↓r_yes, ↓r_ofrz, ↓r_oown, ↓r_w0, ↓r_w1, ↓r_w2, ↓r_w3, ↓r_w4, ↓r_lcT, ↓r_lcI, ↓r_lcR, ↓r_cU0, ↓r_cU1, ↓r_s0, ↓r_n0, ↓r_s1, ↓r_n1, ↓r_s2, ↓r_n2, ↓r_s3, ↓r_n3, ↓r_s4, ↓r_n4, ↓r_s5, ↓r_n5, ↓r_s6, ↓r_n6, ↓r_s7, ↓r_n7, ↓r_s8, ↓r_n8, ↓r_s9, ↓r_n9, ↓r_s10, ↓r_n10, ↓r_s11, ↓r_n11, ↓r_s12, ↓r_n12, ↓r_s13, ↓r_n13, ↓r_s14, ↓r_n14, ↓r_s15, ↓r_n15, ↓r_s16, ↓r_n16, ↓r_s17, ↓r_n17, ↓r_s18, ↓r_n18, ↓r_s19, ↓r_n19, ↓r_s20, ↓r_n20, ↓r_s21, ↓r_n21, ↓r_s22, ↓r_n22, ↓r_s23, ↓r_n23, ↓r_s24, ↓r_n24, ↓r_s25, ↓r_n25, ↓r_fr0, ↓r_fr1, ↓r_frL, ↓r_frN, ↓r_frNN, ↓r_max3, ↓r_seq, ↓r_next, ↓r_var0, ↓r_varS, ↓r_c, ↓r_op, ↓r_addI, ↓r_addS, ↓r_addT, ↓r_addL, ↓r_sub, ↓r_mul, ↓r_div, ↓r_mod, ↓r_pow, ↓r_lt, ↓r_le, ↓r_gt, ↓r_ge, ↓r_eqI, ↓r_neI, ↓r_isN, ↓r_isT, ↓r_isI, ↓r_isR, ↓r_inN, ↓r_inT, ↓r_inI, ↓r_ixT, ↓r_ixLs, ↓r_ixRo, ↓r_ixP, ↓r_at0, ↓r_at1, ↓r_at2, ↓r_at3, ↓r_neg, ↓r_negC, ↓r_b, ↓r_bl, ↓r_and, ↓r_or, ↓r_not, ↓r_andV, ↓r_orV, ↓r_notV, ↓r_bl', ↓r_if, ↓r_ifS, ↓r_asg, ↓r_name, ↓r_jnil, ↓r_jcons, ↓r_jtup, ↓r_jlst, ↓r_jlstP, ↓r_jsub, ↓r_jcut, ↓r_jcutP, ↓r_jcutA, ↓r_in2, ↓r_stP, ↓r_st0, ↓r_st1, ↓r_st2, ↓r_par, ↓r_ret, ↓r_retN, ↓r_drop, ↓r_brk, ↓r_cont, ↓r_raise, ↓r_nil, ↓r_cons, ↓r_tup, ↓r_lst, ↓r_new, ↓r_frz, ↓r_frzP, ↓r_cb, ↓r_call, ↓r_abs, ↓r_max, ↓r_min, ↓r_intI, ↓r_intB, ↓r_lenT, ↓r_lenL, ↓r_lenR, ↓r_lenP, ↓r_listL, ↓r_listR, ↓r_listOL, ↓r_tupleL, ↓r_tupleP, ↓r_isiII, ↓r_isiIB, ↓r_isiBI, ↓r_isiBB, ↓r_isiTT, ↓r_isiLL, ↓r_app, ↓r_appP, ↓r_clr, ↓r_clrP, ↓r_lstP, ↓r_cut, ↓r_onone, ↓r_osome, ↓r_int', ↓r_cutT, ↓r_cutLs, ↓r_cutP, ↓r_range1, ↓r_rg1, ↓rs0, ↓rsS, ↓ite_dec, ↓ite_ndec, ↓put_put, startD, List.length_cons, List.length_nil, and_assoc, and_true, true_and, and_self, or_self, or_false, false_or, or_true, true_or, decide_eq_true_eq, decide_true, decide_false, Bool.not_true, Bool.not_false, Bool.false_eq_true, if_true, if_false, ↓reduceIte, ne_eq, Nat.reduceLeDiff, Nat.reduceAdd, not_false_eq_true, not_true_eq_false, reduceCtorEq, Option.some.injEq, Int.reduceToNat, Int.reducePow, Int.reduceAdd, Int.reduceMul, Int.reduceSub, Int.reduceNeg, Int.reduceEq, List.nil_append, List.cons_append, ↓r_keep, ↓r_isExc, ↓r_indexM, ↓r_lstL, ↓r_eqF, ↓r_neF, ↓r_eqM, ↓r_neM, ↓r_isiFr, ↓r_eqB, ↓r_neB, beq_self_eq_true, ↓r_cutO, ↓r_cutOL, ↓r_cutOP, cv_NOUGHT])
    rw [if_pos (fr_nought hq q0)]
    exact h' q0
  have h := h q0
  have q1 : ¬ q = (0, 1) := fun e => q0 (by rw [e])
  (try simp only [↓r_wm1, ↓r_wm2, ↓r_wm3, ↓r_wm4, ↓r_forT, ↓r_forI, ↓r_fU0, ↓r_fU1, ↓r_turn, ↓r_yes, ↓r_ofrz, ↓r_oown, ↓r_w0, ↓r_w1, ↓r_w2, ↓r_w3, ↓r_w4, ↓r_lcT, ↓r_lcI, ↓r_lcR, ↓r_cU0, ↓r_cU1, ↓r_s0, ↓r_n0, ↓r_s1, ↓r_n1, ↓r_s2, ↓r_n2, ↓r_s3, ↓r_n3, ↓r_s4, ↓r_n4, ↓r_s5, ↓r_n5, ↓r_s6, ↓r_n6, ↓r_s7, ↓r_n7, ↓r_s8, ↓r_n8, ↓r_s9, ↓r_n9, ↓r_s10, ↓r_n10, ↓r_s11, ↓r_n11, ↓r_s12, ↓r_n12, ↓r_s13, ↓r_n13, ↓r_s14, ↓r_n14, ↓r_s15, ↓r_n15, ↓r_s16, ↓r_n16, ↓r_s17, ↓r_n17, ↓r_s18, ↓r_n18, ↓r_s19, ↓r_n19, ↓r_s20, ↓r_n20, ↓r_s21, ↓r_n21, ↓r_s22, ↓r_n22, ↓r_s23, ↓r_n23, ↓r_s24, ↓r_n24, ↓r_s25, ↓r_n25, ↓r_fr0, ↓r_fr1, ↓r_frL, ↓r_frN, ↓r_frNN, ↓r_max3, ↓r_seq, ↓r_next, ↓r_var0, ↓r_varS, ↓r_c, ↓r_op, ↓r_addI, ↓r_addS, ↓r_addT, ↓r_addL, ↓r_sub, ↓r_mul, ↓r_div, ↓r_mod, ↓r_pow, ↓r_lt, ↓r_le, ↓r_gt, ↓r_ge, ↓r_eqI, ↓r_neI, ↓r_isN, ↓r_isT, ↓r_isI, ↓r_isR, ↓r_inN, ↓r_inT, ↓r_inI, ↓r_ixT, ↓r_ixLs, ↓r_ixRo, ↓r_ixP, ↓r_at0, ↓r_at1, ↓r_at2, ↓r_at3, ↓r_neg, ↓r_negC, ↓r_b, ↓r_bl, ↓r_and, ↓r_or, ↓r_not, ↓r_andV, ↓r_orV, ↓r_notV, ↓r_bl', ↓r_if, ↓r_ifS, ↓r_asg, ↓r_name, ↓r_jnil, ↓r_jcons, ↓r_jtup, ↓r_jlst, ↓r_jlstP, ↓r_jsub, ↓r_jcut, ↓r_jcutP, ↓r_jcutA, ↓r_in2, ↓r_stP, ↓r_st0, ↓r_st1, ↓r_st2, ↓r_par, ↓r_ret, ↓r_retN, ↓r_drop, ↓r_brk, ↓r_cont, ↓r_raise, ↓r_nil, ↓r_cons, ↓r_tup, ↓r_lst, ↓r_new, ↓r_frz, ↓r_frzP, ↓r_cb, ↓r_call, ↓r_abs, ↓r_max, ↓r_min, ↓r_intI, ↓r_intB, ↓r_lenT, ↓r_lenL, ↓r_lenR, ↓r_lenP, ↓r_listL, ↓r_listR, ↓r_listOL, ↓r_tupleL, ↓r_tupleP, ↓r_isiII, ↓r_isiIB, ↓r_isiBI, ↓r_isiBB, ↓r_isiTT, ↓r_isiLL, ↓r_app, ↓r_appP, ↓r_clr, ↓r_clrP, ↓r_lstP, ↓r_cut, ↓r_onone, ↓r_osome, ↓r_int', ↓r_cutT, ↓r_cutLs, ↓r_cutP, ↓r_range1, ↓r_rg1, ↓rs0, ↓rsS, ↓ite_dec, ↓ite_ndec, ↓put_put, startD, List.length_cons, List.length_nil, and_assoc, and_true, true_and, and_self, or_self, or_false, false_or, or_true, true_or, decide_eq_true_eq, decide_true, decide_false, Bool.not_true, Bool.not_false, Bool.false_eq_true, if_true, if_false, ↓reduceIte, ne_eq, Nat.reduceLeDiff, Nat.reduceAdd, not_false_eq_true, not_true_eq_false, reduceCtorEq, Option.some.injEq, Int.reduceToNat, Int.reducePow, Int.reduceAdd, Int.reduceMul, Int.reduceSub, Int.reduceNeg, Int.reduceEq, List.nil_append, List.cons_append, ↓r_keep, ↓r_isExc, ↓r_indexM, ↓r_lstL, ↓r_eqF, ↓r_neF, ↓r_eqM, ↓r_neM, ↓r_isiFr, ↓r_eqB, ↓r_neB, beq_self_eq_true, ↓r_cutO, ↓r_cutOL, ↓r_cutOP, cv_NOUGHT])
  rw [if_neg q1]
  refine ⟨m, rfl, ?_⟩
  cases m with
  | q x =>
    (try simp only [↓r_wm1, ↓r_wm2, ↓r_wm3, ↓r_wm4, ↓r_forT, ↓r_forI, ↓r_fU0, ↓r_fU1, ↓r_turn, ↓r_yes, ↓r_ofrz, ↓r_oown, ↓r_w0, ↓r_w1, ↓r_w2, ↓r_w3, ↓r_w4, ↓r_lcT, ↓r_lcI, ↓r_lcR, ↓r_cU0, ↓r_cU1, ↓r_s0, ↓r_n0, ↓r_s1, ↓r_n1, ↓r_s2, ↓r_n2, ↓r_s3, ↓r_n3, ↓r_s4, ↓r_n4, ↓r_s5, ↓r_n5, ↓r_s6, ↓r_n6, ↓r_s7, ↓r_n7, ↓r_s8, ↓r_n8, ↓r_s9, ↓r_n9, ↓r_s10, ↓r_n10, ↓r_s11, ↓r_n11, ↓r_s12, ↓r_n12, ↓r_s13, ↓r_n13, ↓r_s14, ↓r_n14, ↓r_s15, ↓r_n15, ↓r_s16, ↓r_n16, ↓r_s17, ↓r_n17, ↓r_s18, ↓r_n18, ↓r_s19, ↓r_n19, ↓r_s20, ↓r_n20, ↓r_s21, ↓r_n21, ↓r_s22, ↓r_n22, ↓r_s23, ↓r_n23, ↓r_s24, ↓r_n24, ↓r_s25, ↓r_n25, ↓r_fr0, ↓r_fr1, ↓r_frL, ↓r_frN, ↓r_frNN, ↓r_max3, ↓r_seq, ↓r_next, ↓r_var0, ↓r_varS, ↓r_c, ↓r_op, ↓r_addI, ↓r_addS, ↓r_addT, ↓r_addL, ↓r_sub, ↓r_mul, ↓r_div, ↓r_mod, ↓r_pow, ↓r_lt, ↓r_le, ↓r_gt, ↓r_ge, ↓r_eqI, ↓r_neI, ↓r_isN, ↓r_isT, ↓r_isI, ↓r_isR, ↓r_inN, ↓r_inT, ↓r_inI, ↓r_ixT, ↓r_ixLs, ↓r_ixRo, ↓r_ixP, ↓r_at0, ↓r_at1, ↓r_at2, ↓r_at3, ↓r_neg, ↓r_negC, ↓r_b, ↓r_bl, ↓r_and, ↓r_or, ↓r_not, ↓r_andV, ↓r_orV, ↓r_notV, ↓r_bl', ↓r_if, ↓r_ifS, ↓r_asg, ↓r_name, ↓r_jnil, ↓r_jcons, ↓r_jtup, ↓r_jlst, ↓r_jlstP, ↓r_jsub, ↓r_jcut, ↓r_jcutP, ↓r_jcutA, ↓r_in2, ↓r_stP, ↓r_st0, ↓r_st1, ↓r_st2, ↓r_par, ↓r_ret, ↓r_retN, ↓r_drop, ↓r_brk, ↓r_cont, ↓r_raise, ↓r_nil, ↓r_cons, ↓r_tup, ↓r_lst, ↓r_new, ↓r_frz, ↓r_frzP, ↓r_cb, ↓r_call, ↓r_abs, ↓r_max, ↓r_min, ↓r_intI, ↓r_intB, ↓r_lenT, ↓r_lenL, ↓r_lenR, ↓r_lenP, ↓r_listL, ↓r_listR, ↓r_listOL, ↓r_tupleL, ↓r_tupleP, ↓r_isiII, ↓r_isiIB, ↓r_isiBI, ↓r_isiBB, ↓r_isiTT, ↓r_isiLL, ↓r_app, ↓r_appP, ↓r_clr, ↓r_clrP, ↓r_lstP, ↓r_cut, ↓r_onone, ↓r_osome, ↓r_int', ↓r_cutT, ↓r_cutLs, ↓r_cutP, ↓r_range1, ↓r_rg1, ↓rs0, ↓rsS, ↓ite_dec, ↓ite_ndec, ↓put_put, startD, List.length_cons, List.length_nil, and_assoc, and_true, true_and, and_self, or_self, or_false, false_or, or_true, true_or, decide_eq_true_eq, decide_true, decide_false, Bool.not_true, Bool.not_false, Bool.false_eq_true, if_true, if_false, ↓reduceIte, ne_eq, Nat.reduceLeDiff, Nat.reduceAdd, not_false_eq_true, not_true_eq_false, reduceCtorEq, Option.some.injEq, Int.reduceToNat, Int.reducePow, Int.reduceAdd, Int.reduceMul, Int.reduceSub, Int.reduceNeg, Int.reduceEq, List.nil_append, List.cons_append, ↓r_keep, ↓r_isExc, ↓r_indexM, ↓r_lstL, ↓r_eqF, ↓r_neF, ↓r_eqM, ↓r_neM, ↓r_isiFr, ↓r_eqB, ↓r_neB, beq_self_eq_true, ↓r_cutO, ↓r_cutOL, ↓r_cutOP])
    exact ⟨x, q, n, rfl, hm.1, hq, hm.2, bq, by omega, h⟩
  | r a b c s =>
    obtain ⟨ha, ba, bb, bc, hs⟩ := hm
    have fa := fr_int a
    have fb := fr_int b
    have fc := fr_int c
    unfold ofInt at fa fb fc
    have o1 := one_bd ha ba
    have zb : FB n (b, 1) := ⟨bb, o1⟩
    have zc : FB n (c, 1) := ⟨bc, o1⟩
    have c2 := fmul_can hq hq
    have b2 := fmul_bd hq hq bq bq
    have e3 : cutL [D.int a, .int b, .int c, .int s] none (some 3) = [.int a, .int b, .int c] := rfl
    simp only [Mom.d]
    (try simp only [↓r_wm1, ↓r_wm2, ↓r_wm3, ↓r_wm4, ↓r_forT, ↓r_forI, ↓r_fU0, ↓r_fU1, ↓r_turn, ↓r_yes, ↓r_ofrz, ↓r_oown, ↓r_w0, ↓r_w1, ↓r_w2, ↓r_w3, ↓r_w4, ↓r_lcT, ↓r_lcI, ↓r_lcR, ↓r_cU0, ↓r_cU1, ↓r_s0, ↓r_n0, ↓r_s1, ↓r_n1, ↓r_s2, ↓r_n2, ↓r_s3, ↓r_n3, ↓r_s4, ↓r_n4, ↓r_s5, ↓r_n5, ↓r_s6, ↓r_n6, ↓r_s7, ↓r_n7, ↓r_s8, ↓r_n8, ↓r_s9, ↓r_n9, ↓r_s10, ↓r_n10, ↓r_s11, ↓r_n11, ↓r_s12, ↓r_n12, ↓r_s13, ↓r_n13, ↓r_s14, ↓r_n14, ↓r_s15, ↓r_n15, ↓r_s16, ↓r_n16, ↓r_s17, ↓r_n17, ↓r_s18, ↓r_n18, ↓r_s19, ↓r_n19, ↓r_s20, ↓r_n20, ↓r_s21, ↓r_n21, ↓r_s22, ↓r_n22, ↓r_s23, ↓r_n23, ↓r_s24, ↓r_n24, ↓r_s25, ↓r_n25, ↓r_fr0, ↓r_fr1, ↓r_frL, ↓r_frN, ↓r_frNN, ↓r_max3, ↓r_seq, ↓r_next, ↓r_var0, ↓r_varS, ↓r_c, ↓r_op, ↓r_addI, ↓r_addS, ↓r_addT, ↓r_addL, ↓r_sub, ↓r_mul, ↓r_div, ↓r_mod, ↓r_pow, ↓r_lt, ↓r_le, ↓r_gt, ↓r_ge, ↓r_eqI, ↓r_neI, ↓r_isN, ↓r_isT, ↓r_isI, ↓r_isR, ↓r_inN, ↓r_inT, ↓r_inI, ↓r_ixT, ↓r_ixLs, ↓r_ixRo, ↓r_ixP, ↓r_at0, ↓r_at1, ↓r_at2, ↓r_at3, ↓r_neg, ↓r_negC, ↓r_b, ↓r_bl, ↓r_and, ↓r_or, ↓r_not, ↓r_andV, ↓r_orV, ↓r_notV, ↓r_bl', ↓r_if, ↓r_ifS, ↓r_asg, ↓r_name, ↓r_jnil, ↓r_jcons, ↓r_jtup, ↓r_jlst, ↓r_jlstP, ↓r_jsub, ↓r_jcut, ↓r_jcutP, ↓r_jcutA, ↓r_in2, ↓r_stP, ↓r_st0, ↓r_st1, ↓r_st2, ↓r_par, ↓r_ret, ↓r_retN, ↓r_drop, ↓r_brk, ↓r_cont, ↓r_raise, ↓r_nil, ↓r_cons, ↓r_tup, ↓r_lst, ↓r_new, ↓r_frz, ↓r_frzP, ↓r_cb, ↓r_call, ↓r_abs, ↓r_max, ↓r_min, ↓r_intI, ↓r_intB, ↓r_lenT, ↓r_lenL, ↓r_lenR, ↓r_lenP, ↓r_listL, ↓r_listR, ↓r_listOL, ↓r_tupleL, ↓r_tupleP, ↓r_isiII, ↓r_isiIB, ↓r_isiBI, ↓r_isiBB, ↓r_isiTT, ↓r_isiLL, ↓r_app, ↓r_appP, ↓r_clr, ↓r_clrP, ↓r_lstP, ↓r_cut, ↓r_onone, ↓r_osome, ↓r_int', ↓r_cutT, ↓r_cutLs, ↓r_cutP, ↓r_range1, ↓r_rg1, ↓rs0, ↓rsS, ↓ite_dec, ↓ite_ndec, ↓put_put, startD, List.length_cons, List.length_nil, and_assoc, and_true, true_and, and_self, or_self, or_false, false_or, or_true, true_or, decide_eq_true_eq, decide_true, decide_false, Bool.not_true, Bool.not_false, Bool.false_eq_true, if_true, if_false, ↓reduceIte, ne_eq, Nat.reduceLeDiff, Nat.reduceAdd, not_false_eq_true, not_true_eq_false, reduceCtorEq, Option.some.injEq, Int.reduceToNat, Int.reducePow, Int.reduceAdd, Int.reduceMul, Int.reduceSub, Int.reduceNeg, Int.reduceEq, List.nil_append, List.cons_append, ↓r_keep, ↓r_isExc, ↓r_indexM, ↓r_lstL, ↓r_eqF, ↓r_neF, ↓r_eqM, ↓r_neM, ↓r_isiFr, ↓r_eqB, ↓r_neB, beq_self_eq_true, ↓r_cutO, ↓r_cutOL, ↓r_cutOP])
    refine ⟨by decide, ?_⟩
    rw [e3]
    refine ⟨_, _, _, rfl, ?_⟩
    (try simp only [↓r_wm1, ↓r_wm2, ↓r_wm3, ↓r_wm4, ↓r_forT, ↓r_forI, ↓r_fU0, ↓r_fU1, ↓r_turn, ↓r_yes, ↓r_ofrz, ↓r_oown, ↓r_w0, ↓r_w1, ↓r_w2, ↓r_w3, ↓r_w4, ↓r_lcT, ↓r_lcI, ↓r_lcR, ↓r_cU0, ↓r_cU1, ↓r_s0, ↓r_n0, ↓r_s1, ↓r_n1, ↓r_s2, ↓r_n2, ↓r_s3, ↓r_n3, ↓r_s4, ↓r_n4, ↓r_s5, ↓r_n5, ↓r_s6, ↓r_n6, ↓r_s7, ↓r_n7, ↓r_s8, ↓r_n8, ↓r_s9, ↓r_n9, ↓r_s10, ↓r_n10, ↓r_s11, ↓r_n11, ↓r_s12, ↓r_n12, ↓r_s13, ↓r_n13, ↓r_s14, ↓r_n14, ↓r_s15, ↓r_n15, ↓r_s16, ↓r_n16, ↓r_s17, ↓r_n17, ↓r_s18, ↓r_n18, ↓r_s19, ↓r_n19, ↓r_s20, ↓r_n20, ↓r_s21, ↓r_n21, ↓r_s22, ↓r_n22, ↓r_s23, ↓r_n23, ↓r_s24, ↓r_n24, ↓r_s25, ↓r_n25, ↓r_fr0, ↓r_fr1, ↓r_frL, ↓r_frN, ↓r_frNN, ↓r_max3, ↓r_seq, ↓r_next, ↓r_var0, ↓r_varS, ↓r_c, ↓r_op, ↓r_addI, ↓r_addS, ↓r_addT, ↓r_addL, ↓r_sub, ↓r_mul, ↓r_div, ↓r_mod, ↓r_pow, ↓r_lt, ↓r_le, ↓r_gt, ↓r_ge, ↓r_eqI, ↓r_neI, ↓r_isN, ↓r_isT, ↓r_isI, ↓r_isR, ↓r_inN, ↓r_inT, ↓r_inI, ↓r_ixT, ↓r_ixLs, ↓r_ixRo, ↓r_ixP, ↓r_at0, ↓r_at1, ↓r_at2, ↓r_at3, ↓r_neg, ↓r_negC, ↓r_b, ↓r_bl, ↓r_and, ↓r_or, ↓r_not, ↓r_andV, ↓r_orV, ↓r_notV, ↓r_bl', ↓r_if, ↓r_ifS, ↓r_asg, ↓r_name, ↓r_jnil, ↓r_jcons, ↓r_jtup, ↓r_jlst, ↓r_jlstP, ↓r_jsub, ↓r_jcut, ↓r_jcutP, ↓r_jcutA, ↓r_in2, ↓r_stP, ↓r_st0, ↓r_st1, ↓r_st2, ↓r_par, ↓r_ret, ↓r_retN, ↓r_drop, ↓r_brk, ↓r_cont, ↓r_raise, ↓r_nil, ↓r_cons, ↓r_tup, ↓r_lst, ↓r_new, ↓r_frz, ↓r_frzP, ↓r_cb, ↓r_call, ↓r_abs, ↓r_max, ↓r_min, ↓r_intI, ↓r_intB, ↓r_lenT, ↓r_lenL, ↓r_lenR, ↓r_lenP, ↓r_listL, ↓r_listR, ↓r_listOL, ↓r_tupleL, ↓r_tupleP, ↓r_isiII, ↓r_isiIB, ↓r_isiBI, ↓r_isiBB, ↓r_isiTT, ↓r_isiLL, ↓r_app, ↓r_appP, ↓r_clr, ↓r_clrP, ↓r_lstP, ↓r_cut, ↓r_onone, ↓r_osome, ↓r_int', ↓r_cutT, ↓r_cutLs, ↓r_cutP, ↓r_range1, ↓r_rg1, ↓rs0, ↓rsS, ↓ite_dec, ↓ite_ndec, ↓put_put, startD, List.length_cons, List.length_nil, and_assoc, and_true, true_and, and_self, or_self, or_false, false_or, or_true, true_or, decide_eq_true_eq, decide_true, decide_false, Bool.not_true, Bool.not_false, Bool.false_eq_true, if_true, if_false, ↓reduceIte, ne_eq, Nat.reduceLeDiff, Nat.reduceAdd, not_false_eq_true, not_true_eq_false, reduceCtorEq, Option.some.injEq, Int.reduceToNat, Int.reducePow, Int.reduceAdd, Int.reduceMul, Int.reduceSub, Int.reduceNeg, Int.reduceEq, List.nil_append, List.cons_append, ↓r_keep, ↓r_isExc, ↓r_indexM, ↓r_lstL, ↓r_eqF, ↓r_neF, ↓r_eqM, ↓r_neM, ↓r_isiFr, ↓r_eqB, ↓r_neB, beq_self_eq_true, ↓r_cutO, ↓r_cutOL, ↓r_cutOP])
    refine ⟨fun ρ2 μ2 => μ2 = μ ∧ ρ2 = [some (Mom.r a b c s).d, some (fr q), some (fr (a, 1)), some (fr (b, 1)), some (fr (c, 1)), some (.int (if q.1 < 0 then 1 - s else s))], ?_, ?_⟩
    · (try simp only [↓r_wm1, ↓r_wm2, ↓r_wm3, ↓r_wm4, ↓r_forT, ↓r_forI, ↓r_fU0, ↓r_fU1, ↓r_turn, ↓r_yes, ↓r_ofrz, ↓r_oown, ↓r_w0, ↓r_w1, ↓r_w2, ↓r_w3, ↓r_w4, ↓r_lcT, ↓r_lcI, ↓r_lcR, ↓r_cU0, ↓r_cU1, ↓r_s0, ↓r_n0, ↓r_s1, ↓r_n1, ↓r_s2, ↓r_n2, ↓r_s3, ↓r_n3, ↓r_s4, ↓r_n4, ↓r_s5, ↓r_n5, ↓r_s6, ↓r_n6, ↓r_s7, ↓r_n7, ↓r_s8, ↓r_n8, ↓r_s9, ↓r_n9, ↓r_s10, ↓r_n10, ↓r_s11, ↓r_n11, ↓r_s12, ↓r_n12, ↓r_s13, ↓r_n13, ↓r_s14, ↓r_n14, ↓r_s15, ↓r_n15, ↓r_s16, ↓r_n16, ↓r_s17, ↓r_n17, ↓r_s18, ↓r_n18, ↓r_s19, ↓r_n19, ↓r_s20, ↓r_n20, ↓r_s21, ↓r_n21, ↓r_s22, ↓r_n22, ↓r_s23, ↓r_n23, ↓r_s24, ↓r_n24, ↓r_s25, ↓r_n25, ↓r_fr0, ↓r_fr1, ↓r_frL, ↓r_frN, ↓r_frNN, ↓r_max3, ↓r_seq, ↓r_next, ↓r_var0, ↓r_varS, ↓r_c, ↓r_op, ↓r_addI, ↓r_addS, ↓r_addT, ↓r_addL, ↓r_sub, ↓r_mul, ↓r_div, ↓r_mod, ↓r_pow, ↓r_lt, ↓r_le, ↓r_gt, ↓r_ge, ↓r_eqI, ↓r_neI, ↓r_isN, ↓r_isT, ↓r_isI, ↓r_isR, ↓r_inN, ↓r_inT, ↓r_inI, ↓r_ixT, ↓r_ixLs, ↓r_ixRo, ↓r_ixP, ↓r_at0, ↓r_at1, ↓r_at2, ↓r_at3, ↓r_neg, ↓r_negC, ↓r_b, ↓r_bl, ↓r_and, ↓r_or, ↓r_not, ↓r_andV, ↓r_orV, ↓r_notV, ↓r_bl', ↓r_if, ↓r_ifS, ↓r_asg, ↓r_name, ↓r_jnil, ↓r_jcons, ↓r_jtup, ↓r_jlst, ↓r_jlstP, ↓r_jsub, ↓r_jcut, ↓r_jcutP, ↓r_jcutA, ↓r_in2, ↓r_stP, ↓r_st0, ↓r_st1, ↓r_st2, ↓r_par, ↓r_ret, ↓r_retN, ↓r_drop, ↓r_brk, ↓r_cont, ↓r_raise, ↓r_nil, ↓r_cons, ↓r_tup, ↓r_lst, ↓r_new, ↓r_frz, ↓r_frzP, ↓r_cb, ↓r_call, ↓r_abs, ↓r_max, ↓r_min, ↓r_intI, ↓r_intB, ↓r_lenT, ↓r_lenL, ↓r_lenR, ↓r_lenP, ↓r_listL, ↓r_listR, ↓r_listOL, ↓r_tupleL, ↓r_tupleP, ↓r_isiII, ↓r_isiIB, ↓r_isiBI, ↓r_isiBB, ↓r_isiTT, ↓r_isiLL, ↓r_app, ↓r_appP, ↓r_clr, ↓r_clrP, ↓r_lstP, ↓r_cut, ↓r_onone, ↓r_osome, ↓r_int', ↓r_cutT, ↓r_cutLs, ↓r_cutP, ↓r_range1, ↓r_rg1, ↓rs0, ↓rsS, ↓ite_dec, ↓ite_ndec, ↓put_put, startD, List.length_cons, List.length_nil, and_assoc, and_true, true_and, and_self, or_self, or_false, false_or, or_true, true_or, decide_eq_true_eq, decide_true, decide_false, Bool.not_true, Bool.not_false, Bool.false_eq_true, if_true, if_false, ↓reduceIte, ne_eq, Nat.reduceLeDiff, Nat.reduceAdd, not_false_eq_true, not_true_eq_false, reduceCtorEq, Option.some.injEq, Int.reduceToNat, Int.reducePow, Int.reduceAdd, Int.reduceMul, Int.reduceSub, Int.reduceNeg, Int.reduceEq, List.nil_append, List.cons_append, ↓r_keep, ↓r_isExc, ↓r_indexM, ↓r_lstL, ↓r_eqF, ↓r_neF, ↓r_eqM, ↓r_neM, ↓r_isiFr, ↓r_eqB, ↓r_neB, beq_self_eq_true, ↓r_cutO, ↓r_cutOL, ↓r_cutOP])
      split
      · rfl
      · rfl
    rintro ρ2 μ2 ⟨rfl, rfl⟩
    (try simp only [↓r_wm1, ↓r_wm2, ↓r_wm3, ↓r_wm4, ↓r_forT, ↓r_forI, ↓r_fU0, ↓r_fU1, ↓r_turn, ↓r_yes, ↓r_ofrz, ↓r_oown, ↓r_w0, ↓r_w1, ↓r_w2, ↓r_w3, ↓r_w4, ↓r_lcT, ↓r_lcI, ↓r_lcR, ↓r_cU0, ↓r_cU1, ↓r_s0, ↓r_n0, ↓r_s1, ↓r_n1, ↓r_s2, ↓r_n2, ↓r_s3, ↓r_n3, ↓r_s4, ↓r_n4, ↓r_s5, ↓r_n5, ↓r_s6, ↓r_n6, ↓r_s7, ↓r_n7, ↓r_s8, ↓r_n8, ↓r_s9, ↓r_n9, ↓r_s10, ↓r_n10, ↓r_s11, ↓r_n11, ↓r_s12, ↓r_n12, ↓r_s13, ↓r_n13, ↓r_s14, ↓r_n14, ↓r_s15, ↓r_n15, ↓r_s16, ↓r_n16, ↓r_s17, ↓r_n17, ↓r_s18, ↓r_n18, ↓r_s19, ↓r_n19, ↓r_s20, ↓r_n20, ↓r_s21, ↓r_n21, ↓r_s22, ↓r_n22, ↓r_s23, ↓r_n23, ↓r_s24, ↓r_n24, ↓r_s25, ↓r_n25, ↓r_fr0, ↓r_fr1, ↓r_frL, ↓r_frN, ↓r_frNN, ↓r_max3, ↓r_seq, ↓r_next, ↓r_var0, ↓r_varS, ↓r_c, ↓r_op, ↓r_addI, ↓r_addS, ↓r_addT, ↓r_addL, ↓r_sub, ↓r_mul, ↓r_div, ↓r_mod, ↓r_pow, ↓r_lt, ↓r_le, ↓r_gt, ↓r_ge, ↓r_eqI, ↓r_neI, ↓r_isN, ↓r_isT, ↓r_isI, ↓r_isR, ↓r_inN, ↓r_inT, ↓r_inI, ↓r_ixT, ↓r_ixLs, ↓r_ixRo, ↓r_ixP, ↓r_at0, ↓r_at1, ↓r_at2, ↓r_at3, ↓r_neg, ↓r_negC, ↓r_b, ↓r_bl, ↓r_and, ↓r_or, ↓r_not, ↓r_andV, ↓r_orV, ↓r_notV, ↓r_bl', ↓r_if, ↓r_ifS, ↓r_asg, ↓r_name, ↓r_jnil, ↓r_jcons, ↓r_jtup, ↓r_jlst, ↓r_jlstP, ↓r_jsub, ↓r_jcut, ↓r_jcutP, ↓r_jcutA, ↓r_in2, ↓r_stP, ↓r_st0, ↓r_st1, ↓r_st2, ↓r_par, ↓r_ret, ↓r_retN, ↓r_drop, ↓r_brk, ↓r_cont, ↓r_raise, ↓r_nil, ↓r_cons, ↓r_tup, ↓r_lst, ↓r_new, ↓r_frz, ↓r_frzP, ↓r_cb, ↓r_call, ↓r_abs, ↓r_max, ↓r_min, ↓r_intI, ↓r_intB, ↓r_lenT, ↓r_lenL, ↓r_lenR, ↓r_lenP, ↓r_listL, ↓r_listR, ↓r_listOL, ↓r_tupleL, ↓r_tupleP, ↓r_isiII, ↓r_isiIB, ↓r_isiBI, ↓r_isiBB, ↓r_isiTT, ↓r_isiLL, ↓r_app, ↓r_appP, ↓r_clr, ↓r_clrP, ↓r_lstP, ↓r_cut, ↓r_onone, ↓r_osome, ↓r_int', ↓r_cutT, ↓r_cutLs, ↓r_cutP, ↓r_range1, ↓r_rg1, ↓rs0, ↓rsS, ↓ite_dec, ↓ite_ndec, ↓put_put, startD, List.length_cons, List.length_nil, and_assoc, and_true, true_and, and_self, or_self, or_false, false_or, or_true, true_or, decide_eq_true_eq, decide_true, decide_false, Bool.not_true, Bool.not_false, Bool.false_eq_true, if_true, if_false, ↓reduceIte, ne_eq, Nat.reduceLeDiff, Nat.reduceAdd, not_false_eq_true, not_true_eq_false, reduceCtorEq, Option.some.injEq, Int.reduceToNat, Int.reducePow, Int.reduceAdd, Int.reduceMul, Int.reduceSub, Int.reduceNeg, Int.reduceEq, List.nil_append, List.cons_append, ↓r_keep, ↓r_isExc, ↓r_indexM, ↓r_lstL, ↓r_eqF, ↓r_neF, ↓r_eqM, ↓r_neM, ↓r_isiFr, ↓r_eqB, ↓r_neB, beq_self_eq_true, ↓r_cutO, ↓r_cutOL, ↓r_cutOP])
    refine ⟨(b, 1), q, n, rfl, fb, hq, zb, bq, by omega, ?_⟩
    (try simp only [↓r_wm1, ↓r_wm2, ↓r_wm3, ↓r_wm4, ↓r_forT, ↓r_forI, ↓r_fU0, ↓r_fU1, ↓r_turn, ↓r_yes, ↓r_ofrz, ↓r_oown, ↓r_w0, ↓r_w1, ↓r_w2, ↓r_w3, ↓r_w4, ↓r_lcT, ↓r_lcI, ↓r_lcR, ↓r_cU0, ↓r_cU1, ↓r_s0, ↓r_n0, ↓r_s1, ↓r_n1, ↓r_s2, ↓r_n2, ↓r_s3, ↓r_n3, ↓r_s4, ↓r_n4, ↓r_s5, ↓r_n5, ↓r_s6, ↓r_n6, ↓r_s7, ↓r_n7, ↓r_s8, ↓r_n8, ↓r_s9, ↓r_n9, ↓r_s10, ↓r_n10, ↓r_s11, ↓r_n11, ↓r_s12, ↓r_n12, ↓r_s13, ↓r_n13, ↓r_s14, ↓r_n14, ↓r_s15, ↓r_n15, ↓r_s16, ↓r_n16, ↓r_s17, ↓r_n17, ↓r_s18, ↓r_n18, ↓r_s19, ↓r_n19, ↓r_s20, ↓r_n20, ↓r_s21, ↓r_n21, ↓r_s22, ↓r_n22, ↓r_s23, ↓r_n23, ↓r_s24, ↓r_n24, ↓r_s25, ↓r_n25, ↓r_fr0, ↓r_fr1, ↓r_frL, ↓r_frN, ↓r_frNN, ↓r_max3, ↓r_seq, ↓r_next, ↓r_var0, ↓r_varS, ↓r_c, ↓r_op, ↓r_addI, ↓r_addS, ↓r_addT, ↓r_addL, ↓r_sub, ↓r_mul, ↓r_div, ↓r_mod, ↓r_pow, ↓r_lt, ↓r_le, ↓r_gt, ↓r_ge, ↓r_eqI, ↓r_neI, ↓r_isN, ↓r_isT, ↓r_isI, ↓r_isR, ↓r_inN, ↓r_inT, ↓r_inI, ↓r_ixT, ↓r_ixLs, ↓r_ixRo, ↓r_ixP, ↓r_at0, ↓r_at1, ↓r_at2, ↓r_at3, ↓r_neg, ↓r_negC, ↓r_b, ↓r_bl, ↓r_and, ↓r_or, ↓r_not, ↓r_andV, ↓r_orV, ↓r_notV, ↓r_bl', ↓r_if, ↓r_ifS, ↓r_asg, ↓r_name, ↓r_jnil, ↓r_jcons, ↓r_jtup, ↓r_jlst, ↓r_jlstP, ↓r_jsub, ↓r_jcut, ↓r_jcutP, ↓r_jcutA, ↓r_in2, ↓r_stP, ↓r_st0, ↓r_st1, ↓r_st2, ↓r_par, ↓r_ret, ↓r_retN, ↓r_drop, ↓r_brk, ↓r_cont, ↓r_raise, ↓r_nil, ↓r_cons, ↓r_tup, ↓r_lst, ↓r_new, ↓r_frz, ↓r_frzP, ↓r_cb, ↓r_call, ↓r_abs, ↓r_max, ↓r_min, ↓r_intI, ↓r_intB, ↓r_lenT, ↓r_lenL, ↓r_lenR, ↓r_lenP, ↓r_listL, ↓r_listR, ↓r_listOL, ↓r_tupleL, ↓r_tupleP, ↓r_isiII, ↓r_isiIB, ↓r_isiBI, ↓r_isiBB, ↓r_isiTT, ↓r_isiLL, ↓r_app, ↓r_appP, ↓r_clr, ↓r_clrP, ↓r_lstP, ↓r_cut, ↓r_onone, ↓r_osome, ↓r_int', ↓r_cutT, ↓r_cutLs, ↓r_cutP, ↓r_range1, ↓r_rg1, ↓rs0, ↓rsS, ↓ite_dec, ↓ite_ndec, ↓put_put, startD, List.length_cons, List.length_nil, and_assoc, and_true, true_and, and_self, or_self, or_false, false_or, or_true, true_or, decide_eq_true_eq, decide_true, decide_false, Bool.not_true, Bool.not_false, Bool.false_eq_true, if_true, if_false, ↓reduceIte, ne_eq, Nat.reduceLeDiff, Nat.reduceAdd, not_false_eq_true, not_true_eq_false, reduceCtorEq, Option.some.injEq, Int.reduceToNat, Int.reducePow, Int.reduceAdd, Int.reduceMul, Int.reduceSub, Int.reduceNeg, Int.reduceEq, List.nil_append, List.cons_append, ↓r_keep, ↓r_isExc, ↓r_indexM, ↓r_lstL, ↓r_eqF, ↓r_neF, ↓r_eqM, ↓r_neM, ↓r_isiFr, ↓r_eqB, ↓r_neB, beq_self_eq_true, ↓r_cutO, ↓r_cutOL, ↓r_cutOP])
    refine ⟨q, q, n, rfl, hq, hq, bq, bq, by omega, ?_⟩
    (try simp only [↓r_wm1, ↓r_wm2, ↓r_wm3, ↓r_wm4, ↓r_forT, ↓r_forI, ↓r_fU0, ↓r_fU1, ↓r_turn, ↓r_yes, ↓r_ofrz, ↓r_oown, ↓r_w0, ↓r_w1, ↓r_w2, ↓r_w3, ↓r_w4, ↓r_lcT, ↓r_lcI, ↓r_lcR, ↓r_cU0, ↓r_cU1, ↓r_s0, ↓r_n0, ↓r_s1, ↓r_n1, ↓r_s2, ↓r_n2, ↓r_s3, ↓r_n3, ↓r_s4, ↓r_n4, ↓r_s5, ↓r_n5, ↓r_s6, ↓r_n6, ↓r_s7, ↓r_n7, ↓r_s8, ↓r_n8, ↓r_s9, ↓r_n9, ↓r_s10, ↓r_n10, ↓r_s11, ↓r_n11, ↓r_s12, ↓r_n12, ↓r_s13, ↓r_n13, ↓r_s14, ↓r_n14, ↓r_s15, ↓r_n15, ↓r_s16, ↓r_n16, ↓r_s17, ↓r_n17, ↓r_s18, ↓r_n18, ↓r_s19, ↓r_n19, ↓r_s20, ↓r_n20, ↓r_s21, ↓r_n21, ↓r_s22, ↓r_n22, ↓r_s23, ↓r_n23, ↓r_s24, ↓r_n24, ↓r_s25, ↓r_n25, ↓r_fr0, ↓r_fr1, ↓r_frL, ↓r_frN, ↓r_frNN, ↓r_max3, ↓r_seq, ↓r_next, ↓r_var0, ↓r_varS, ↓r_c, ↓r_op, ↓r_addI, ↓r_addS, ↓r_addT, ↓r_addL, ↓r_sub, ↓r_mul, ↓r_div, ↓r_mod, ↓r_pow, ↓r_lt, ↓r_le, ↓r_gt, ↓r_ge, ↓r_eqI, ↓r_neI, ↓r_isN, ↓r_isT, ↓r_isI, ↓r_isR, ↓r_inN, ↓r_inT, ↓r_inI, ↓r_ixT, ↓r_ixLs, ↓r_ixRo, ↓r_ixP, ↓r_at0, ↓r_at1, ↓r_at2, ↓r_at3, ↓r_neg, ↓r_negC, ↓r_b, ↓r_bl, ↓r_and, ↓r_or, ↓r_not, ↓r_andV, ↓r_orV, ↓r_notV, ↓r_bl', ↓r_if, ↓r_ifS, ↓r_asg, ↓r_name, ↓r_jnil, ↓r_jcons, ↓r_jtup, ↓r_jlst, ↓r_jlstP, ↓r_jsub, ↓r_jcut, ↓r_jcutP, ↓r_jcutA, ↓r_in2, ↓r_stP, ↓r_st0, ↓r_st1, ↓r_st2, ↓r_par, ↓r_ret, ↓r_retN, ↓r_drop, ↓r_brk, ↓r_cont, ↓r_raise, ↓r_nil, ↓r_cons, ↓r_tup, ↓r_lst, ↓r_new, ↓r_frz, ↓r_frzP, ↓r_cb, ↓r_call, ↓r_abs, ↓r_max, ↓r_min, ↓r_intI, ↓r_intB, ↓r_lenT, ↓r_lenL, ↓r_lenR, ↓r_lenP, ↓r_listL, ↓r_listR, ↓r_listOL, ↓r_tupleL, ↓r_tupleP, ↓r_isiII, ↓r_isiIB, ↓r_isiBI, ↓r_isiBB, ↓r_isiTT, ↓r_isiLL, ↓r_app, ↓r_appP, ↓r_clr, ↓r_clrP, ↓r_lstP, ↓r_cut, ↓r_onone, ↓r_osome, ↓r_int', ↓r_cutT, ↓r_cutLs, ↓r_cutP, ↓r_range1, ↓r_rg1, ↓rs0, ↓rsS, ↓ite_dec, ↓ite_ndec, ↓put_put, startD, List.length_cons, List.length_nil, and_assoc, and_true, true_and, and_self, or_self, or_false, false_or, or_true, true_or, decide_eq_true_eq, decide_true, decide_false, Bool.not_true, Bool.not_false, Bool.false_eq_true, if_true, if_false, ↓reduceIte, ne_eq, Nat.reduceLeDiff, Nat.reduceAdd, not_false_eq_true, not_true_eq_false, reduceCtorEq, Option.some.injEq, Int.reduceToNat, Int.reducePow, Int.reduceAdd, Int.reduceMul, Int.reduceSub, Int.reduceNeg, Int.reduceEq, List.nil_append, List.cons_append, ↓r_keep, ↓r_isExc, ↓r_indexM, ↓r_lstL, ↓r_eqF, ↓r_neF, ↓r_eqM, ↓r_neM, ↓r_isiFr, ↓r_eqB, ↓r_neB, beq_self_eq_true, ↓r_cutO, ↓r_cutOL, ↓r_cutOP])
    refine ⟨(c, 1), _, n + n, rfl, fc, c2, zc.mono (by omega), b2, by omega, ?_⟩
    (try simp only [↓r_wm1, ↓r_wm2, ↓r_wm3, ↓r_wm4, ↓r_forT, ↓r_forI, ↓r_fU0, ↓r_fU1, ↓r_turn, ↓r_yes, ↓r_ofrz, ↓r_oown, ↓r_w0, ↓r_w1, ↓r_w2, ↓r_w3, ↓r_w4, ↓r_lcT, ↓r_lcI, ↓r_lcR, ↓r_cU0, ↓r_cU1, ↓r_s0, ↓r_n0, ↓r_s1, ↓r_n1, ↓r_s2, ↓r_n2, ↓r_s3, ↓r_n3, ↓r_s4, ↓r_n4, ↓r_s5, ↓r_n5, ↓r_s6, ↓r_n6, ↓r_s7, ↓r_n7, ↓r_s8, ↓r_n8, ↓r_s9, ↓r_n9, ↓r_s10, ↓r_n10, ↓r_s11, ↓r_n11, ↓r_s12, ↓r_n12, ↓r_s13, ↓r_n13, ↓r_s14, ↓r_n14, ↓r_s15, ↓r_n15, ↓r_s16, ↓r_n16, ↓r_s17, ↓r_n17, ↓r_s18, ↓r_n18, ↓r_s19, ↓r_n19, ↓r_s20, ↓r_n20, ↓r_s21, ↓r_n21, ↓r_s22, ↓r_n22, ↓r_s23, ↓r_n23, ↓r_s24, ↓r_n24, ↓r_s25, ↓r_n25, ↓r_fr0, ↓r_fr1, ↓r_frL, ↓r_frN, ↓r_frNN, ↓r_max3, ↓r_seq, ↓r_next, ↓r_var0, ↓r_varS, ↓r_c, ↓r_op, ↓r_addI, ↓r_addS, ↓r_addT, ↓r_addL, ↓r_sub, ↓r_mul, ↓r_div, ↓r_mod, ↓r_pow, ↓r_lt, ↓r_le, ↓r_gt, ↓r_ge, ↓r_eqI, ↓r_neI, ↓r_isN, ↓r_isT, ↓r_isI, ↓r_isR, ↓r_inN, ↓r_inT, ↓r_inI, ↓r_ixT, ↓r_ixLs, ↓r_ixRo, ↓r_ixP, ↓r_at0, ↓r_at1, ↓r_at2, ↓r_at3, ↓r_neg, ↓r_negC, ↓r_b, ↓r_bl, ↓r_and, ↓r_or, ↓r_not, ↓r_andV, ↓r_orV, ↓r_notV, ↓r_bl', ↓r_if, ↓r_ifS, ↓r_asg, ↓r_name, ↓r_jnil, ↓r_jcons, ↓r_jtup, ↓r_jlst, ↓r_jlstP, ↓r_jsub, ↓r_jcut, ↓r_jcutP, ↓r_jcutA, ↓r_in2, ↓r_stP, ↓r_st0, ↓r_st1, ↓r_st2, ↓r_par, ↓r_ret, ↓r_retN, ↓r_drop, ↓r_brk, ↓r_cont, ↓r_raise, ↓r_nil, ↓r_cons, ↓r_tup, ↓r_lst, ↓r_new, ↓r_frz, ↓r_frzP, ↓r_cb, ↓r_call, ↓r_abs, ↓r_max, ↓r_min, ↓r_intI, ↓r_intB, ↓r_lenT, ↓r_lenL, ↓r_lenR, ↓r_lenP, ↓r_listL, ↓r_listR, ↓r_listOL, ↓r_tupleL, ↓r_tupleP, ↓r_isiII, ↓r_isiIB, ↓r_isiBI, ↓r_isiBB, ↓r_isiTT, ↓r_isiLL, ↓r_app, ↓r_appP, ↓r_clr, ↓r_clrP, ↓r_lstP, ↓r_cut, ↓r_onone, ↓r_osome, ↓r_int', ↓r_cutT, ↓r_cutLs, ↓r_cutP, ↓r_range1, ↓r_rg1, ↓rs0, ↓rsS, ↓ite_dec, ↓ite_ndec, ↓put_put, startD, List.length_cons, List.length_nil, and_assoc, and_true, true_and, and_self, or_self, or_false, false_or, or_true, true_or, decide_eq_true_eq, decide_true, decide_false, Bool.not_true, Bool.not_false, Bool.false_eq_true, if_true, if_false, ↓reduceIte, ne_eq, Nat.reduceLeDiff, Nat.reduceAdd, not_false_eq_true, not_true_eq_false, reduceCtorEq, Option.some.injEq, Int.reduceToNat, Int.reducePow, Int.reduceAdd, Int.reduceMul, Int.reduceSub, Int.reduceNeg, Int.reduceEq, List.nil_append, List.cons_append, ↓r_keep, ↓r_isExc, ↓r_indexM, ↓r_lstL, ↓r_eqF, ↓r_neF, ↓r_eqM, ↓r_neM, ↓r_isiFr, ↓r_eqB, ↓r_neB, beq_self_eq_true, ↓r_cutO, ↓r_cutOL, ↓r_cutOP])
    refine ⟨grwC a b c q, _, 3 * n + 1, rfl, grw_ok hq ba bb bc bq, nz_of_a (by show a ≠ 0; omega), by omega, ?_⟩
    exact h
def pr_grown_by : DSp := fun ds μ P PX => ∃ (m : Mom) (q : Int × Int) (n : Nat), ds = [m.d, fr q] ∧ m.Ok n ∧ Fr q ∧ FB n q ∧ n ≤ 600 ∧ q.1 ≠ 0 ∧ P (grwM m q).d μ
theorem len_grown_by : ∀ ds μ P PX, pr_grown_by ds μ P PX → ds.length = (["moment", "by"] : List Str).length := by
  rintro ds μ P PX ⟨m, q, n, rfl, _⟩
  rfl
theorem ok_grown_by {P : Program} {w : World} {K : PySem.W.Frag} {mg : Str → Option Value} {base : Heap} {f : Addr} {fd : FuncData} (F : Fun K "grown_by" "grown_by" s_grown_by f fd)
    (d_is_root : Df P w K mg base "is_root" ["moment"] 1 pr_is_root)
    (d_times : Df P w K mg base "times" ["one", "two"] 3 pr_times)
    (d_fractions_of : Df P w K mg base "fractions_of" ["numbers"] 1 pr_fractions_of)
    (d_told_root : Df P w K mg base "told_root" ["curve", "side"] 3 pr_told_root)
    (c_NOUGHT : CG K mg "NOUGHT" cv_NOUGHT) : FnOk P w K mg base (L2.CX P w) 4 f fd ["moment", "by"] (spD K pr_grown_by) := by
  have nd := sc_grown_by.nd
  refine fn_D (k := 3) F sc_grown_by len_grown_by (by decide) (fun cdv A outer s H E PX hr tk hp => ⟨_, (sd_cons (sd_if (pt_eq hr.units (vr 1) (pd_const (by rfl) c_NOUGHT))
       (sd_one sd_never)
       sd_nil)
      (sd_cons (sd_if (pt_n (pt_b (pd_call d_is_root tk hr (by rfl) (da_cons (vr 0) da_nil))))
       (sd_one (sd_ret (pd_call d_times tk hr (by rfl) (da_cons (vr 0) (da_cons (vr 1) da_nil)))))
       sd_nil)
      (sd_cons (sd_asg (pd_call d_fractions_of tk hr (by rfl) (da_cons (pd_cut (vr 0) do_none (do_some pd_int)) da_nil)) (gd_tup (n := 3) rfl (gd_cons (gd_name 2 nd) (gd_cons (gd_name 3 nd) (gd_cons (gd_name 4 nd) gd_nil)))))
      (sd_cons (sd_set 5 nd (pd_ix (vr 0) pd_int))
      (sd_cut (sd_if (pt_lt (pd_ix (vr 1) pd_int) pd_int)
       (sd_one (sd_set 5 nd (pd_sub pd_int (vr 5))))
       sd_nil)
      (sd_one (sd_ret (pd_call d_told_root tk hr (by rfl) (da_cons (pd_tup (da_cons (vr 2) (da_cons (pd_call d_times tk hr (by rfl) (da_cons (vr 3) (da_cons (vr 1) da_nil))) (da_cons (pd_call d_times tk hr (by rfl) (da_cons (vr 4) (da_cons (pd_call d_times tk hr (by rfl) (da_cons (vr 1) (da_cons (vr 1) da_nil))) da_nil))) da_nil)))) (da_cons (vr 5) da_nil))))))))))⟩) ?_
  rintro ds μ P PX ⟨m, q, n, rfl, hm, hq, bq, hn, q0, h⟩
  have q1 : ¬ q = (0, 1) := fun e => q0 (by rw [e])
  (try simp only [↓r_wm1, ↓r_wm2, ↓r_wm3, ↓r_wm4, ↓r_forT, ↓r_forI, ↓r_fU0, ↓r_fU1, ↓r_turn, ↓r_yes, ↓r_ofrz, ↓r_oown, ↓r_w0, ↓r_w1, ↓r_w2, ↓r_w3, ↓r_w4, ↓r_lcT, ↓r_lcI, ↓r_lcR, ↓r_cU0, ↓r_cU1, ↓r_s0, ↓r_n0, ↓r_s1, ↓r_n1, ↓r_s2, ↓r_n2, ↓r_s3, ↓r_n3, ↓r_s4, ↓r_n4, ↓r_s5, ↓r_n5, ↓r_s6, ↓r_n6, ↓r_s7, ↓r_n7, ↓r_s8, ↓r_n8, ↓r_s9, ↓r_n9, ↓r_s10, ↓r_n10, ↓r_s11, ↓r_n11, ↓r_s12, ↓r_n12, ↓r_s13, ↓r_n13, ↓r_s14, ↓r_n14, ↓r_s15, ↓r_n15, ↓r_s16, ↓r_n16, ↓r_s17, ↓r_n17, ↓r_s18, ↓r_n18, ↓r_s19, ↓r_n19, ↓r_s20, ↓r_n20, ↓r_s21, ↓r_n21, ↓r_s22, ↓r_n22, ↓r_s23, ↓r_n23, ↓r_s24, ↓r_n24, ↓r_s25, ↓r_n25, ↓r_fr0, ↓r_fr1, ↓r_frL, ↓r_frN, ↓r_frNN, ↓r_max3, ↓r_seq, ↓r_next, ↓r_var0, ↓r_varS, ↓r_c, ↓r_op, ↓r_addI, ↓r_addS, ↓r_addT, ↓r_addL, ↓r_sub, ↓r_mul, ↓r_div, ↓r_mod, ↓r_pow, ↓r_lt, ↓r_le, ↓r_gt, ↓r_ge, ↓r_eqI, ↓r_neI, ↓r_isN, ↓r_isT, ↓r_isI, ↓r_isR, ↓r_inN, ↓r_inT, ↓r_inI, ↓r_ixT, ↓r_ixLs, ↓r_ixRo, ↓r_ixP, ↓r_at0, ↓r_at1, ↓r_at2, ↓r_at3, ↓r_neg, ↓r_negC, ↓r_b, ↓r_bl, ↓r_and, ↓r_or, ↓r_not, ↓r_andV, ↓r_orV, ↓r_notV, ↓r_bl', ↓r_if, ↓r_ifS, ↓r_asg, ↓r_name, ↓r_jnil, ↓r_jcons, ↓r_jtup, ↓r_jlst, ↓r_jlstP, ↓r_jsub, ↓r_jcut, ↓r_jcutP, ↓r_jcutA, ↓r_in2, ↓r_stP, ↓r_st0, ↓r_st1, ↓r_st2, ↓r_par, ↓r_ret, ↓r_retN, ↓r_drop, ↓r_brk, ↓r_cont, ↓r_raise, ↓r_nil, ↓r_cons, ↓r_tup, ↓r_lst, ↓r_new, ↓r_frz, ↓r_frzP, ↓r_cb, ↓r_call, ↓r_abs, ↓r_max, ↓r_min, ↓r_intI, ↓r_intB, ↓r_lenT, ↓r_lenL, ↓r_lenR, ↓r_lenP, ↓r_listL, ↓r_listR, ↓r_listOL, ↓r_tupleL, ↓r_tupleP, ↓r_isiII, ↓r_isiIB, ↓r_isiBI, ↓r_isiBB, ↓r_isiTT, ↓r_isiLL, ↓r_app, ↓r_appP, ↓r_clr, ↓r_clrP, ↓r_lstP, ↓r_cut, ↓r_onone, ↓r_osome, ↓r_int', ↓r_cutT, ↓r_cutLs, ↓r_cutP, ↓r_range1, ↓r_rg1, ↓rs0, ↓rsS, ↓ite_dec, ↓ite_ndec, ↓put_put, startD, List.length_cons, List.length_nil, and_assoc, and_true, true_and, and_self, or_self, or_false, false_or, or_true, true_or, decide_eq_true_eq, decide_true, decide_false, Bool.not_true, Bool.not_false, Bool.false_eq_true, if_true, if_false, ↓reduceIte, ne_eq, Nat.reduceLeDiff, Nat.reduceAdd, not_false_eq_true, not_true_eq_false, reduceCtorEq, Option.some.injEq, Int.reduceToNat, Int.reducePow, Int.reduceAdd, Int.reduceMul, Int.reduceSub, Int.reduceNeg, Int.reduceEq, List.nil_append, List.cons_append, ↓r_keep, ↓r_isExc, ↓r_indexM, ↓r_lstL, ↓r_eqF, ↓r_neF, ↓r_eqM, ↓r_neM, ↓r_isiFr, ↓r_eqB, ↓r_neB, beq_self_eq_true, ↓r_cutO, ↓r_cutOL, ↓r_cutOP, cv_NOUGHT])
  rw [if_neg q1]
  refine ⟨m, rfl, ?_⟩
  cases m with
  | q x =>
    (try simp only [↓r_wm1, ↓r_wm2, ↓r_wm3, ↓r_wm4, ↓r_forT, ↓r_forI, ↓r_fU0, ↓r_fU1, ↓r_turn, ↓r_yes, ↓r_ofrz, ↓r_oown, ↓r_w0, ↓r_w1, ↓r_w2, ↓r_w3, ↓r_w4, ↓r_lcT, ↓r_lcI, ↓r_lcR, ↓r_cU0, ↓r_cU1, ↓r_s0, ↓r_n0, ↓r_s1, ↓r_n1, ↓r_s2, ↓r_n2, ↓r_s3, ↓r_n3, ↓r_s4, ↓r_n4, ↓r_s5, ↓r_n5, ↓r_s6, ↓r_n6, ↓r_s7, ↓r_n7, ↓r_s8, ↓r_n8, ↓r_s9, ↓r_n9, ↓r_s10, ↓r_n10, ↓r_s11, ↓r_n11, ↓r_s12, ↓r_n12, ↓r_s13, ↓r_n13, ↓r_s14, ↓r_n14, ↓r_s15, ↓r_n15, ↓r_s16, ↓r_n16, ↓r_s17, ↓r_n17, ↓r_s18, ↓r_n18, ↓r_s19, ↓r_n19, ↓r_s20, ↓r_n20, ↓r_s21, ↓r_n21, ↓r_s22, ↓r_n22, ↓r_s23, ↓r_n23, ↓r_s24, ↓r_n24, ↓r_s25, ↓r_n25, ↓r_fr0, ↓r_fr1, ↓r_frL, ↓r_frN, ↓r_frNN, ↓r_max3, ↓r_seq, ↓r_next, ↓r_var0, ↓r_varS, ↓r_c, ↓r_op, ↓r_addI, ↓r_addS, ↓r_addT, ↓r_addL, ↓r_sub, ↓r_mul, ↓r_div, ↓r_mod, ↓r_pow, ↓r_lt, ↓r_le, ↓r_gt, ↓r_ge, ↓r_eqI, ↓r_neI, ↓r_isN, ↓r_isT, ↓r_isI, ↓r_isR, ↓r_inN, ↓r_inT, ↓r_inI, ↓r_ixT, ↓r_ixLs, ↓r_ixRo, ↓r_ixP, ↓r_at0, ↓r_at1, ↓r_at2, ↓r_at3, ↓r_neg, ↓r_negC, ↓r_b, ↓r_bl, ↓r_and, ↓r_or, ↓r_not, ↓r_andV, ↓r_orV, ↓r_notV, ↓r_bl', ↓r_if, ↓r_ifS, ↓r_asg, ↓r_name, ↓r_jnil, ↓r_jcons, ↓r_jtup, ↓r_jlst, ↓r_jlstP, ↓r_jsub, ↓r_jcut, ↓r_jcutP, ↓r_jcutA, ↓r_in2, ↓r_stP, ↓r_st0, ↓r_st1, ↓r_st2, ↓r_par, ↓r_ret, ↓r_retN, ↓r_drop, ↓r_brk, ↓r_cont, ↓r_raise, ↓r_nil, ↓r_cons, ↓r_tup, ↓r_lst, ↓r_new, ↓r_frz, ↓r_frzP, ↓r_cb, ↓r_call, ↓r_abs, ↓r_max, ↓r_min, ↓r_intI, ↓r_intB, ↓r_lenT, ↓r_lenL, ↓r_lenR, ↓r_lenP, ↓r_listL, ↓r_listR, ↓r_listOL, ↓r_tupleL, ↓r_tupleP, ↓r_isiII, ↓r_isiIB, ↓r_isiBI, ↓r_isiBB, ↓r_isiTT, ↓r_isiLL, ↓r_app, ↓r_appP, ↓r_clr, ↓r_clrP, ↓r_lstP, ↓r_cut, ↓r_onone, ↓r_osome, ↓r_int', ↓r_cutT, ↓r_cutLs, ↓r_cutP, ↓r_range1, ↓r_rg1, ↓rs0, ↓rsS, ↓ite_dec, ↓ite_ndec, ↓put_put, startD, List.length_cons, List.length_nil, and_assoc, and_true, true_and, and_self, or_self, or_false, false_or, or_true, true_or, decide_eq_true_eq, decide_true, decide_false, Bool.not_true, Bool.not_false, Bool.false_eq_true, if_true, if_false, ↓reduceIte, ne_eq, Nat.reduceLeDiff, Nat.reduceAdd, not_false_eq_true, not_true_eq_false, reduceCtorEq, Option.some.injEq, Int.reduceToNat, Int.reducePow, Int.reduceAdd, Int.reduceMul, Int.reduceSub, Int.reduceNeg, Int.reduceEq, List.nil_append, List.cons_append, ↓r_keep, ↓r_isExc, ↓r_indexM, ↓r_lstL, ↓r_eqF, ↓r_neF, ↓r_eqM, ↓r_neM, ↓r_isiFr, ↓r_eqB, ↓r_neB, beq_self_eq_true, ↓r_cutO, ↓r_cutOL, ↓r_cutOP])
    exact ⟨x, q, n, rfl, hm.1, hq, hm.2, bq, by omega, h⟩
  | r a b c s =>
    obtain ⟨ha, ba, bb, bc, hs⟩ := hm
    have fa := fr_int a
    have fb := fr_int b
    have fc := fr_int c
    unfold ofInt at fa fb fc
    have o1 := one_bd ha ba
    have zb : FB n (b, 1) := ⟨bb, o1⟩
    have zc : FB n (c, 1) := ⟨bc, o1⟩
    have c2 := fmul_can hq hq
    have b2 := fmul_bd hq hq bq bq
    have e3 : cutL [D.int a, .int b, .int c, .int s] none (some 3) = [.int a, .int b, .int c] := rfl
    simp only [Mom.d]
    (try simp only [↓r_wm1, ↓r_wm2, ↓r_wm3, ↓r_wm4, ↓r_forT, ↓r_forI, ↓r_fU0, ↓r_fU1, ↓r_turn, ↓r_yes, ↓r_ofrz, ↓r_oown, ↓r_w0, ↓r_w1, ↓r_w2, ↓r_w3, ↓r_w4, ↓r_lcT, ↓r_lcI, ↓r_lcR, ↓r_cU0, ↓r_cU1, ↓r_s0, ↓r_n0, ↓r_s1, ↓r_n1, ↓r_s2, ↓r_n2, ↓r_s3, ↓r_n3, ↓r_s4, ↓r_n4, ↓r_s5, ↓r_n5, ↓r_s6, ↓r_n6, ↓r_s7, ↓r_n7, ↓r_s8, ↓r_n8, ↓r_s9, ↓r_n9, ↓r_s10, ↓r_n10, ↓r_s11, ↓r_n11, ↓r_s12, ↓r_n12, ↓r_s13, ↓r_n13, ↓r_s14, ↓r_n14, ↓r_s15, ↓r_n15, ↓r_s16, ↓r_n16, ↓r_s17, ↓r_n17, ↓r_s18, ↓r_n18, ↓r_s19, ↓r_n19, ↓r_s20, ↓r_n20, ↓r_s21, ↓r_n21, ↓r_s22, ↓r_n22, ↓r_s23, ↓r_n23, ↓r_s24, ↓r_n24, ↓r_s25, ↓r_n25, ↓r_fr0, ↓r_fr1, ↓r_frL, ↓r_frN, ↓r_frNN, ↓r_max3, ↓r_seq, ↓r_next, ↓r_var0, ↓r_varS, ↓r_c, ↓r_op, ↓r_addI, ↓r_addS, ↓r_addT, ↓r_addL, ↓r_sub, ↓r_mul, ↓r_div, ↓r_mod, ↓r_pow, ↓r_lt, ↓r_le, ↓r_gt, ↓r_ge, ↓r_eqI, ↓r_neI, ↓r_isN, ↓r_isT, ↓r_isI, ↓r_isR, ↓r_inN, ↓r_inT, ↓r_inI, ↓r_ixT, ↓r_ixLs, ↓r_ixRo, ↓r_ixP, ↓r_at0, ↓r_at1, ↓r_at2, ↓r_at3, ↓r_neg, ↓r_negC, ↓r_b, ↓r_bl, ↓r_and, ↓r_or, ↓r_not, ↓r_andV, ↓r_orV, ↓r_notV, ↓r_bl', ↓r_if, ↓r_ifS, ↓r_asg, ↓r_name, ↓r_jnil, ↓r_jcons, ↓r_jtup, ↓r_jlst, ↓r_jlstP, ↓r_jsub, ↓r_jcut, ↓r_jcutP, ↓r_jcutA, ↓r_in2, ↓r_stP, ↓r_st0, ↓r_st1, ↓r_st2, ↓r_par, ↓r_ret, ↓r_retN, ↓r_drop, ↓r_brk, ↓r_cont, ↓r_raise, ↓r_nil, ↓r_cons, ↓r_tup, ↓r_lst, ↓r_new, ↓r_frz, ↓r_frzP, ↓r_cb, ↓r_call, ↓r_abs, ↓r_max, ↓r_min, ↓r_intI, ↓r_intB, ↓r_lenT, ↓r_lenL, ↓r_lenR, ↓r_lenP, ↓r_listL, ↓r_listR, ↓r_listOL, ↓r_tupleL, ↓r_tupleP, ↓r_isiII, ↓r_isiIB, ↓r_isiBI, ↓r_isiBB, ↓r_isiTT, ↓r_isiLL, ↓r_app, ↓r_appP, ↓r_clr, ↓r_clrP, ↓r_lstP, ↓r_cut, ↓r_onone, ↓r_osome, ↓r_int', ↓r_cutT, ↓r_cutLs, ↓r_cutP, ↓r_range1, ↓r_rg1, ↓rs0, ↓rsS, ↓ite_dec, ↓ite_ndec, ↓put_put, startD, List.length_cons, List.length_nil, and_assoc, and_true, true_and, and_self, or_self, or_false, false_or, or_true, true_or, decide_eq_true_eq, decide_true, decide_false, Bool.not_true, Bool.not_false, Bool.false_eq_true, if_true, if_false, ↓reduceIte, ne_eq, Nat.reduceLeDiff, Nat.reduceAdd, not_false_eq_true, not_true_eq_false, reduceCtorEq, Option.some.injEq, Int.reduceToNat, Int.reducePow, Int.reduceAdd, Int.reduceMul, Int.reduceSub, Int.reduceNeg, Int.reduceEq, List.nil_append, List.cons_append, ↓r_keep, ↓r_isExc, ↓r_indexM, ↓r_lstL, ↓r_eqF, ↓r_neF, ↓r_eqM, ↓r_neM, ↓r_isiFr, ↓r_eqB, ↓r_neB, beq_self_eq_true, ↓r_cutO, ↓r_cutOL, ↓r_cutOP])
    refine ⟨by decide, ?_⟩
    rw [e3]
    refine ⟨_, _, _, rfl, ?_⟩
    (try simp only [↓r_wm1, ↓r_wm2, ↓r_wm3, ↓r_wm4, ↓r_forT, ↓r_forI, ↓r_fU0, ↓r_fU1, ↓r_turn, ↓r_yes, ↓r_ofrz, ↓r_oown, ↓r_w0, ↓r_w1, ↓r_w2, ↓r_w3, ↓r_w4, ↓r_lcT, ↓r_lcI, ↓r_lcR, ↓r_cU0, ↓r_cU1, ↓r_s0, ↓r_n0, ↓r_s1, ↓r_n1, ↓r_s2, ↓r_n2, ↓r_s3, ↓r_n3, ↓r_s4, ↓r_n4, ↓r_s5, ↓r_n5, ↓r_s6, ↓r_n6, ↓r_s7, ↓r_n7, ↓r_s8, ↓r_n8, ↓r_s9, ↓r_n9, ↓r_s10, ↓r_n10, ↓r_s11, ↓r_n11, ↓r_s12, ↓r_n12, ↓r_s13, ↓r_n13, ↓r_s14, ↓r_n14, ↓r_s15, ↓r_n15, ↓r_s16, ↓r_n16, ↓r_s17, ↓r_n17, ↓r_s18, ↓r_n18, ↓r_s19, ↓r_n19, ↓r_s20, ↓r_n20, ↓r_s21, ↓r_n21, ↓r_s22, ↓r_n22, ↓r_s23, ↓r_n23, ↓r_s24, ↓r_n24, ↓r_s25, ↓r_n25, ↓r_fr0, ↓r_fr1, ↓r_frL, ↓r_frN, ↓r_frNN, ↓r_max3, ↓r_seq, ↓r_next, ↓r_var0, ↓r_varS, ↓r_c, ↓r_op, ↓r_addI, ↓r_addS, ↓r_addT, ↓r_addL, ↓r_sub, ↓r_mul, ↓r_div, ↓r_mod, ↓r_pow, ↓r_lt, ↓r_le, ↓r_gt, ↓r_ge, ↓r_eqI, ↓r_neI, ↓r_isN, ↓r_isT, ↓r_isI, ↓r_isR, ↓r_inN, ↓r_inT, ↓r_inI, ↓r_ixT, ↓r_ixLs, ↓r_ixRo, ↓r_ixP, ↓r_at0, ↓r_at1, ↓r_at2, ↓r_at3, ↓r_neg, ↓r_negC, ↓r_b, ↓r_bl, ↓r_and, ↓r_or, ↓r_not, ↓r_andV, ↓r_orV, ↓r_notV, ↓r_bl', ↓r_if, ↓r_ifS, ↓r_asg, ↓r_name, ↓r_jnil, ↓r_jcons, ↓r_jtup, ↓r_jlst, ↓r_jlstP, ↓r_jsub, ↓r_jcut, ↓r_jcutP, ↓r_jcutA, ↓r_in2, ↓r_stP, ↓r_st0, ↓r_st1, ↓r_st2, ↓r_par, ↓r_ret, ↓r_retN, ↓r_drop, ↓r_brk, ↓r_cont, ↓r_raise, ↓r_nil, ↓r_cons, ↓r_tup, ↓r_lst, ↓r_new, ↓r_frz, ↓r_frzP, ↓r_cb, ↓r_call, ↓r_abs, ↓r_max, ↓r_min, ↓r_intI, ↓r_intB, ↓r_lenT, ↓r_lenL, ↓r_lenR, ↓r_lenP, ↓r_listL, ↓r_listR, ↓r_listOL, ↓r_tupleL, ↓r_tupleP, ↓r_isiII, ↓r_isiIB, ↓r_isiBI, ↓r_isiBB, ↓r_isiTT, ↓r_isiLL, ↓r_app, ↓r_appP, ↓r_clr, ↓r_clrP, ↓r_lstP, ↓r_cut, ↓r_onone, ↓r_osome, ↓r_int', ↓r_cutT, ↓r_cutLs, ↓r_cutP, ↓r_range1, ↓r_rg1, ↓rs0, ↓rsS, ↓ite_dec, ↓ite_ndec, ↓put_put, startD, List.length_cons, List.length_nil, and_assoc, and_true, true_and, and_self, or_self, or_false, false_or, or_true, true_or, decide_eq_true_eq, decide_true, decide_false, Bool.not_true, Bool.not_false, Bool.false_eq_true, if_true, if_false, ↓reduceIte, ne_eq, Nat.reduceLeDiff, Nat.reduceAdd, not_false_eq_true, not_true_eq_false, reduceCtorEq, Option.some.injEq, Int.reduceToNat, Int.reducePow, Int.reduceAdd, Int.reduceMul, Int.reduceSub, Int.reduceNeg, Int.reduceEq, List.nil_append, List.cons_append, ↓r_keep, ↓r_isExc, ↓r_indexM, ↓r_lstL, ↓r_eqF, ↓r_neF, ↓r_eqM, ↓r_neM, ↓r_isiFr, ↓r_eqB, ↓r_neB, beq_self_eq_true, ↓r_cutO, ↓r_cutOL, ↓r_cutOP])
    refine ⟨fun ρ2 μ2 => μ2 = μ ∧ ρ2 = [some (Mom.r a b c s).d, some (fr q), some (fr (a, 1)), some (fr (b, 1)), some (fr (c, 1)), some (.int (if q.1 < 0 then 1 - s else s))], ?_, ?_⟩
    · (try simp only [↓r_wm1, ↓r_wm2, ↓r_wm3, ↓r_wm4, ↓r_forT, ↓r_forI, ↓r_fU0, ↓r_fU1, ↓r_turn, ↓r_yes, ↓r_ofrz, ↓r_oown, ↓r_w0, ↓r_w1, ↓r_w2, ↓r_w3, ↓r_w4, ↓r_lcT, ↓r_lcI, ↓r_lcR, ↓r_cU0, ↓r_cU1, ↓r_s0, ↓r_n0, ↓r_s1, ↓r_n1, ↓r_s2, ↓r_n2, ↓r_s3, ↓r_n3, ↓r_s4, ↓r_n4, ↓r_s5, ↓r_n5, ↓r_s6, ↓r_n6, ↓r_s7, ↓r_n7, ↓r_s8, ↓r_n8, ↓r_s9, ↓r_n9, ↓r_s10, ↓r_n10, ↓r_s11, ↓r_n11, ↓r_s12, ↓r_n12, ↓r_s13, ↓r_n13, ↓r_s14, ↓r_n14, ↓r_s15, ↓r_n15, ↓r_s16, ↓r_n16, ↓r_s17, ↓r_n17, ↓r_s18, ↓r_n18, ↓r_s19, ↓r_n19, ↓r_s20, ↓r_n20, ↓r_s21, ↓r_n21, ↓r_s22, ↓r_n22, ↓r_s23, ↓r_n23, ↓r_s24, ↓r_n24, ↓r_s25, ↓r_n25, ↓r_fr0, ↓r_fr1, ↓r_frL, ↓r_frN, ↓r_frNN, ↓r_max3, ↓r_seq, ↓r_next, ↓r_var0, ↓r_varS, ↓r_c, ↓r_op, ↓r_addI, ↓r_addS, ↓r_addT, ↓r_addL, ↓r_sub, ↓r_mul, ↓r_div, ↓r_mod, ↓r_pow, ↓r_lt, ↓r_le, ↓r_gt, ↓r_ge, ↓r_eqI, ↓r_neI, ↓r_isN, ↓r_isT, ↓r_isI, ↓r_isR, ↓r_inN, ↓r_inT, ↓r_inI, ↓r_ixT, ↓r_ixLs, ↓r_ixRo, ↓r_ixP, ↓r_at0, ↓r_at1, ↓r_at2, ↓r_at3, ↓r_neg, ↓r_negC, ↓r_b, ↓r_bl, ↓r_and, ↓r_or, ↓r_not, ↓r_andV, ↓r_orV, ↓r_notV, ↓r_bl', ↓r_if, ↓r_ifS, ↓r_asg, ↓r_name, ↓r_jnil, ↓r_jcons, ↓r_jtup, ↓r_jlst, ↓r_jlstP, ↓r_jsub, ↓r_jcut, ↓r_jcutP, ↓r_jcutA, ↓r_in2, ↓r_stP, ↓r_st0, ↓r_st1, ↓r_st2, ↓r_par, ↓r_ret, ↓r_retN, ↓r_drop, ↓r_brk, ↓r_cont, ↓r_raise, ↓r_nil, ↓r_cons, ↓r_tup, ↓r_lst, ↓r_new, ↓r_frz, ↓r_frzP, ↓r_cb, ↓r_call, ↓r_abs, ↓r_max, ↓r_min, ↓r_intI, ↓r_intB, ↓r_lenT, ↓r_lenL, ↓r_lenR, ↓r_lenP, ↓r_listL, ↓r_listR, ↓r_listOL, ↓r_tupleL, ↓r_tupleP, ↓r_isiII, ↓r_isiIB, ↓r_isiBI, ↓r_isiBB, ↓r_isiTT, ↓r_isiLL, ↓r_app, ↓r_appP, ↓r_clr, ↓r_clrP, ↓r_lstP, ↓r_cut, ↓r_onone, ↓r_osome, ↓r_int', ↓r_cutT, ↓r_cutLs, ↓r_cutP, ↓r_range1, ↓r_rg1, ↓rs0, ↓rsS, ↓ite_dec, ↓ite_ndec, ↓put_put, startD, List.length_cons, List.length_nil, and_assoc, and_true, true_and, and_self, or_self, or_false, false_or, or_true, true_or, decide_eq_true_eq, decide_true, decide_false, Bool.not_true, Bool.not_false, Bool.false_eq_true, if_true, if_false, ↓reduceIte, ne_eq, Nat.reduceLeDiff, Nat.reduceAdd, not_false_eq_true, not_true_eq_false, reduceCtorEq, Option.some.injEq, Int.reduceToNat, Int.reducePow, Int.reduceAdd, Int.reduceMul, Int.reduceSub, Int.reduceNeg, Int.reduceEq, List.nil_append, List.cons_append, ↓r_keep, ↓r_isExc, ↓r_indexM, ↓r_lstL, ↓r_eqF, ↓r_neF, ↓r_eqM, ↓r_neM, ↓r_isiFr, ↓r_eqB, ↓r_neB, beq_self_eq_true, ↓r_cutO, ↓r_cutOL, ↓r_cutOP])
      split
      · rfl
      · rfl
    rintro ρ2 μ2 ⟨rfl, rfl⟩
    (try simp only [↓r_wm1, ↓r_wm2, ↓r_wm3, ↓r_wm4, ↓r_forT, ↓r_forI, ↓r_fU0, ↓r_fU1, ↓r_turn, ↓r_yes, ↓r_ofrz, ↓r_oown, ↓r_w0, ↓r_w1, ↓r_w2, ↓r_w3, ↓r_w4, ↓r_lcT, ↓r_lcI, ↓r_lcR, ↓r_cU0, ↓r_cU1, ↓r_s0, ↓r_n0, ↓r_s1, ↓r_n1, ↓r_s2, ↓r_n2, ↓r_s3, ↓r_n3, ↓r_s4, ↓r_n4, ↓r_s5, ↓r_n5, ↓r_s6, ↓r_n6, ↓r_s7, ↓r_n7, ↓r_s8, ↓r_n8, ↓r_s9, ↓r_n9, ↓r_s10, ↓r_n10, ↓r_s11, ↓r_n11, ↓r_s12, ↓r_n12, ↓r_s13, ↓r_n13, ↓r_s14, ↓r_n14, ↓r_s15, ↓r_n15, ↓r_s16, ↓r_n16, ↓r_s17, ↓r_n17, ↓r_s18, ↓r_n18, ↓r_s19, ↓r_n19, ↓r_s20, ↓r_n20, ↓r_s21, ↓r_n21, ↓r_s22, ↓r_n22, ↓r_s23, ↓r_n23, ↓r_s24, ↓r_n24, ↓r_s25, ↓r_n25, ↓r_fr0, ↓r_fr1, ↓r_frL, ↓r_frN, ↓r_frNN, ↓r_max3, ↓r_seq, ↓r_next, ↓r_var0, ↓r_varS, ↓r_c, ↓r_op, ↓r_addI, ↓r_addS, ↓r_addT, ↓r_addL, ↓r_sub, ↓r_mul, ↓r_div, ↓r_mod, ↓r_pow, ↓r_lt, ↓r_le, ↓r_gt, ↓r_ge, ↓r_eqI, ↓r_neI, ↓r_isN, ↓r_isT, ↓r_isI, ↓r_isR, ↓r_inN, ↓r_inT, ↓r_inI, ↓r_ixT, ↓r_ixLs, ↓r_ixRo, ↓r_ixP, ↓r_at0, ↓r_at1, ↓r_at2, ↓r_at3, ↓r_neg, ↓r_negC, ↓r_b, ↓r_bl, ↓r_and, ↓r_or, ↓r_not, ↓r_andV, ↓r_orV, ↓r_notV, ↓r_bl', ↓r_if, ↓r_ifS, ↓r_asg, ↓r_name, ↓r_jnil, ↓r_jcons, ↓r_jtup, ↓r_jlst, ↓r_jlstP, ↓r_jsub, ↓r_jcut, ↓r_jcutP, ↓r_jcutA, ↓r_in2, ↓r_stP, ↓r_st0, ↓r_st1, ↓r_st2, ↓r_par, ↓r_ret, ↓r_retN, ↓r_drop, ↓r_brk, ↓r_cont, ↓r_raise, ↓r_nil, ↓r_cons, ↓r_tup, ↓r_lst, ↓r_new, ↓r_frz, ↓r_frzP, ↓r_cb, ↓r_call, ↓r_abs, ↓r_max, ↓r_min, ↓r_intI, ↓r_intB, ↓r_lenT, ↓r_lenL, ↓r_lenR, ↓r_lenP, ↓r_listL, ↓r_listR, ↓r_listOL, ↓r_tupleL, ↓r_tupleP, ↓r_isiII, ↓r_isiIB, ↓r_isiBI, ↓r_isiBB, ↓r_isiTT, ↓r_isiLL, ↓r_app, ↓r_appP, ↓r_clr, ↓r_clrP, ↓r_lstP, ↓r_cut, ↓r_onone, ↓r_osome, ↓r_int', ↓r_cutT, ↓r_cutLs, ↓r_cutP, ↓r_range1, ↓r_rg1, ↓rs0, ↓rsS, ↓ite_dec, ↓ite_ndec, ↓put_put, startD, List.length_cons, List.length_nil, and_assoc, and_true, true_and, and_self, or_self, or_false, false_or, or_true, true_or, decide_eq_true_eq, decide_true, decide_false, Bool.not_true, Bool.not_false, Bool.false_eq_true, if_true, if_false, ↓reduceIte, ne_eq, Nat.reduceLeDiff, Nat.reduceAdd, not_false_eq_true, not_true_eq_false, reduceCtorEq, Option.some.injEq, Int.reduceToNat, Int.reducePow, Int.reduceAdd, Int.reduceMul, Int.reduceSub, Int.reduceNeg, Int.reduceEq, List.nil_append, List.cons_append, ↓r_keep, ↓r_isExc, ↓r_indexM, ↓r_lstL, ↓r_eqF, ↓r_neF, ↓r_eqM, ↓r_neM, ↓r_isiFr, ↓r_eqB, ↓r_neB, beq_self_eq_true, ↓r_cutO, ↓r_cutOL, ↓r_cutOP])
    refine ⟨(b, 1), q, n, rfl, fb, hq, zb, bq, by omega, ?_⟩
    (try simp only [↓r_wm1, ↓r_wm2, ↓r_wm3, ↓r_wm4, ↓r_forT, ↓r_forI, ↓r_fU0, ↓r_fU1, ↓r_turn, ↓r_yes, ↓r_ofrz, ↓r_oown, ↓r_w0, ↓r_w1, ↓r_w2, ↓r_w3, ↓r_w4, ↓r_lcT, ↓r_lcI, ↓r_lcR, ↓r_cU0, ↓r_cU1, ↓r_s0, ↓r_n0, ↓r_s1, ↓r_n1, ↓r_s2, ↓r_n2, ↓r_s3, ↓r_n3, ↓r_s4, ↓r_n4, ↓r_s5, ↓r_n5, ↓r_s6, ↓r_n6, ↓r_s7, ↓r_n7, ↓r_s8, ↓r_n8, ↓r_s9, ↓r_n9, ↓r_s10, ↓r_n10, ↓r_s11, ↓r_n11, ↓r_s12, ↓r_n12, ↓r_s13, ↓r_n13, ↓r_s14, ↓r_n14, ↓r_s15, ↓r_n15, ↓r_s16, ↓r_n16, ↓r_s17, ↓r_n17, ↓r_s18, ↓r_n18, ↓r_s19, ↓r_n19, ↓r_s20, ↓r_n20, ↓r_s21, ↓r_n21, ↓r_s22, ↓r_n22, ↓r_s23, ↓r_n23, ↓r_s24, ↓r_n24, ↓r_s25, ↓r_n25, ↓r_fr0, ↓r_fr1, ↓r_frL, ↓r_frN, ↓r_frNN, ↓r_max3, ↓r_seq, ↓r_next, ↓r_var0, ↓r_varS, ↓r_c, ↓r_op, ↓r_addI, ↓r_addS, ↓r_addT, ↓r_addL, ↓r_sub, ↓r_mul, ↓r_div, ↓r_mod, ↓r_pow, ↓r_lt, ↓r_le, ↓r_gt, ↓r_ge, ↓r_eqI, ↓r_neI, ↓r_isN, ↓r_isT, ↓r_isI, ↓r_isR, ↓r_inN, ↓r_inT, ↓r_inI, ↓r_ixT, ↓r_ixLs, ↓r_ixRo, ↓r_ixP, ↓r_at0, ↓r_at1, ↓r_at2, ↓r_at3, ↓r_neg, ↓r_negC, ↓r_b, ↓r_bl, ↓r_and, ↓r_or, ↓r_not, ↓r_andV, ↓r_orV, ↓r_notV, ↓r_bl', ↓r_if, ↓r_ifS, ↓r_asg, ↓r_name, ↓r_jnil, ↓r_jcons, ↓r_jtup, ↓r_jlst, ↓r_jlstP, ↓r_jsub, ↓r_jcut, ↓r_jcutP, ↓r_jcutA, ↓r_in2, ↓r_stP, ↓r_st0, ↓r_st1, ↓r_st2, ↓r_par, ↓r_ret, ↓r_retN, ↓r_drop, ↓r_brk, ↓r_cont, ↓r_raise, ↓r_nil, ↓r_cons, ↓r_tup, ↓r_lst, ↓r_new, ↓r_frz, ↓r_frzP, ↓r_cb, ↓r_call, ↓r_abs, ↓r_max, ↓r_min, ↓r_intI, ↓r_intB, ↓r_lenT, ↓r_lenL, ↓r_lenR, ↓r_lenP, ↓r_listL, ↓r_listR, ↓r_listOL, ↓r_tupleL, ↓r_tupleP, ↓r_isiII, ↓r_isiIB, ↓r_isiBI, ↓r_isiBB, ↓r_isiTT, ↓r_isiLL, ↓r_app, ↓r_appP, ↓r_clr, ↓r_clrP, ↓r_lstP, ↓r_cut, ↓r_onone, ↓r_osome, ↓r_int', ↓r_cutT, ↓r_cutLs, ↓r_cutP, ↓r_range1, ↓r_rg1, ↓rs0, ↓rsS, ↓ite_dec, ↓ite_ndec, ↓put_put, startD, List.length_cons, List.length_nil, and_assoc, and_true, true_and, and_self, or_self, or_false, false_or, or_true, true_or, decide_eq_true_eq, decide_true, decide_false, Bool.not_true, Bool.not_false, Bool.false_eq_true, if_true, if_false, ↓reduceIte, ne_eq, Nat.reduceLeDiff, Nat.reduceAdd, not_false_eq_true, not_true_eq_false, reduceCtorEq, Option.some.injEq, Int.reduceToNat, Int.reducePow, Int.reduceAdd, Int.reduceMul, Int.reduceSub, Int.reduceNeg, Int.reduceEq, List.nil_append, List.cons_append, ↓r_keep, ↓r_isExc, ↓r_indexM, ↓r_lstL, ↓r_eqF, ↓r_neF, ↓r_eqM, ↓r_neM, ↓r_isiFr, ↓r_eqB, ↓r_neB, beq_self_eq_true, ↓r_cutO, ↓r_cutOL, ↓r_cutOP])
    refine ⟨q, q, n, rfl, hq, hq, bq, bq, by omega, ?_⟩
    (try simp only [↓r_wm1, ↓r_wm2, ↓r_wm3, ↓r_wm4, ↓r_forT, ↓r_forI, ↓r_fU0, ↓r_fU1, ↓r_turn, ↓r_yes, ↓r_ofrz, ↓r_oown, ↓r_w0, ↓r_w1, ↓r_w2, ↓r_w3, ↓r_w4, ↓r_lcT, ↓r_lcI, ↓r_lcR, ↓r_cU0, ↓r_cU1, ↓r_s0, ↓r_n0, ↓r_s1, ↓r_n1, ↓r_s2, ↓r_n2, ↓r_s3, ↓r_n3, ↓r_s4, ↓r_n4, ↓r_s5, ↓r_n5, ↓r_s6, ↓r_n6, ↓r_s7, ↓r_n7, ↓r_s8, ↓r_n8, ↓r_s9, ↓r_n9, ↓r_s10, ↓r_n10, ↓r_s11, ↓r_n11, ↓r_s12, ↓r_n12, ↓r_s13, ↓r_n13, ↓r_s14, ↓r_n14, ↓r_s15, ↓r_n15, ↓r_s16, ↓r_n16, ↓r_s17, ↓r_n17, ↓r_s18, ↓r_n18, ↓r_s19, ↓r_n19, ↓r_s20, ↓r_n20, ↓r_s21, ↓r_n21, ↓r_s22, ↓r_n22, ↓r_s23, ↓r_n23, ↓r_s24, ↓r_n24, ↓r_s25, ↓r_n25, ↓r_fr0, ↓r_fr1, ↓r_frL, ↓r_frN, ↓r_frNN, ↓r_max3, ↓r_seq, ↓r_next, ↓r_var0, ↓r_varS, ↓r_c, ↓r_op, ↓r_addI, ↓r_addS, ↓r_addT, ↓r_addL, ↓r_sub, ↓r_mul, ↓r_div, ↓r_mod, ↓r_pow, ↓r_lt, ↓r_le, ↓r_gt, ↓r_ge, ↓r_eqI, ↓r_neI, ↓r_isN, ↓r_isT, ↓r_isI, ↓r_isR, ↓r_inN, ↓r_inT, ↓r_inI, ↓r_ixT, ↓r_ixLs, ↓r_ixRo, ↓r_ixP, ↓r_at0, ↓r_at1, ↓r_at2, ↓r_at3, ↓r_neg, ↓r_negC, ↓r_b, ↓r_bl, ↓r_and, ↓r_or, ↓r_not, ↓r_andV, ↓r_orV, ↓r_notV, ↓r_bl', ↓r_if, ↓r_ifS, ↓r_asg, ↓r_name, ↓r_jnil, ↓r_jcons, ↓r_jtup, ↓r_jlst, ↓r_jlstP, ↓r_jsub, ↓r_jcut, ↓r_jcutP, ↓r_jcutA, ↓r_in2, ↓r_stP, ↓r_st0, ↓r_st1, ↓r_st2, ↓r_par, ↓r_ret, ↓r_retN, ↓r_drop, ↓r_brk, ↓r_cont, ↓r_raise, ↓r_nil, ↓r_cons, ↓r_tup, ↓r_lst, ↓r_new, ↓r_frz, ↓r_frzP, ↓r_cb, ↓r_call, ↓r_abs, ↓r_max, ↓r_min, ↓r_intI, ↓r_intB, ↓r_lenT, ↓r_lenL, ↓r_lenR, ↓r_lenP, ↓r_listL, ↓r_listR, ↓r_listOL, ↓r_tupleL, ↓r_tupleP, ↓r_isiII, ↓r_isiIB, ↓r_isiBI, ↓r_isiBB, ↓r_isiTT, ↓r_isiLL, ↓r_app, ↓r_appP, ↓r_clr, ↓r_clrP, ↓r_lstP, ↓r_cut, ↓r_onone, ↓r_osome, ↓r_int', ↓r_cutT, ↓r_cutLs, ↓r_cutP, ↓r_range1, ↓r_rg1, ↓rs0, ↓rsS, ↓ite_dec, ↓ite_ndec, ↓put_put, startD, List.length_cons, List.length_nil, and_assoc, and_true, true_and, and_self, or_self, or_false, false_or, or_true, true_or, decide_eq_true_eq, decide_true, decide_false, Bool.not_true, Bool.not_false, Bool.false_eq_true, if_true, if_false, ↓reduceIte, ne_eq, Nat.reduceLeDiff, Nat.reduceAdd, not_false_eq_true, not_true_eq_false, reduceCtorEq, Option.some.injEq, Int.reduceToNat, Int.reducePow, Int.reduceAdd, Int.reduceMul, Int.reduceSub, Int.reduceNeg, Int.reduceEq, List.nil_append, List.cons_append, ↓r_keep, ↓r_isExc, ↓r_indexM, ↓r_lstL, ↓r_eqF, ↓r_neF, ↓r_eqM, ↓r_neM, ↓r_isiFr, ↓r_eqB, ↓r_neB, beq_self_eq_true, ↓r_cutO, ↓r_cutOL, ↓r_cutOP])
    refine ⟨(c, 1), _, n + n, rfl, fc, c2, zc.mono (by omega), b2, by omega, ?_⟩
    (try simp only [↓r_wm1, ↓r_wm2, ↓r_wm3, ↓r_wm4, ↓r_forT, ↓r_forI, ↓r_fU0, ↓r_fU1, ↓r_turn, ↓r_yes, ↓r_ofrz, ↓r_oown, ↓r_w0, ↓r_w1, ↓r_w2, ↓r_w3, ↓r_w4, ↓r_lcT, ↓r_lcI, ↓r_lcR, ↓r_cU0, ↓r_cU1, ↓r_s0, ↓r_n0, ↓r_s1, ↓r_n1, ↓r_s2, ↓r_n2, ↓r_s3, ↓r_n3, ↓r_s4, ↓r_n4, ↓r_s5, ↓r_n5, ↓r_s6, ↓r_n6, ↓r_s7, ↓r_n7, ↓r_s8, ↓r_n8, ↓r_s9, ↓r_n9, ↓r_s10, ↓r_n10, ↓r_s11, ↓r_n11, ↓r_s12, ↓r_n12, ↓r_s13, ↓r_n13, ↓r_s14, ↓r_n14, ↓r_s15, ↓r_n15, ↓r_s16, ↓r_n16, ↓r_s17, ↓r_n17, ↓r_s18, ↓r_n18, ↓r_s19, ↓r_n19, ↓r_s20, ↓r_n20, ↓r_s21, ↓r_n21, ↓r_s22, ↓r_n22, ↓r_s23, ↓r_n23, ↓r_s24, ↓r_n24, ↓r_s25, ↓r_n25, ↓r_fr0, ↓r_fr1, ↓r_frL, ↓r_frN, ↓r_frNN, ↓r_max3, ↓r_seq, ↓r_next, ↓r_var0, ↓r_varS, ↓r_c, ↓r_op, ↓r_addI, ↓r_addS, ↓r_addT, ↓r_addL, ↓r_sub, ↓r_mul, ↓r_div, ↓r_mod, ↓r_pow, ↓r_lt, ↓r_le, ↓r_gt, ↓r_ge, ↓r_eqI, ↓r_neI, ↓r_isN, ↓r_isT, ↓r_isI, ↓r_isR, ↓r_inN, ↓r_inT, ↓r_inI, ↓r_ixT, ↓r_ixLs, ↓r_ixRo, ↓r_ixP, ↓r_at0, ↓r_at1, ↓r_at2, ↓r_at3, ↓r_neg, ↓r_negC, ↓r_b, ↓r_bl, ↓r_and, ↓r_or, ↓r_not, ↓r_andV, ↓r_orV, ↓r_notV, ↓r_bl', ↓r_if, ↓r_ifS, ↓r_asg, ↓r_name, ↓r_jnil, ↓r_jcons, ↓r_jtup, ↓r_jlst, ↓r_jlstP, ↓r_jsub, ↓r_jcut, ↓r_jcutP, ↓r_jcutA, ↓r_in2, ↓r_stP, ↓r_st0, ↓r_st1, ↓r_st2, ↓r_par, ↓r_ret, ↓r_retN, ↓r_drop, ↓r_brk, ↓r_cont, ↓r_raise, ↓r_nil, ↓r_cons, ↓r_tup, ↓r_lst, ↓r_new, ↓r_frz, ↓r_frzP, ↓r_cb, ↓r_call, ↓r_abs, ↓r_max, ↓r_min, ↓r_intI, ↓r_intB, ↓r_lenT, ↓r_lenL, ↓r_lenR, ↓r_lenP, ↓r_listL, ↓r_listR, ↓r_listOL, ↓r_tupleL, ↓r_tupleP, ↓r_isiII, ↓r_isiIB, ↓r_isiBI, ↓r_isiBB, ↓r_isiTT, ↓r_isiLL, ↓r_app, ↓r_appP, ↓r_clr, ↓r_clrP, ↓r_lstP, ↓r_cut, ↓r_onone, ↓r_osome, ↓r_int', ↓r_cutT, ↓r_cutLs, ↓r_cutP, ↓r_range1, ↓r_rg1, ↓rs0, ↓rsS, ↓ite_dec, ↓ite_ndec, ↓put_put, startD, List.length_cons, List.length_nil, and_assoc, and_true, true_and, and_self, or_self, or_false, false_or, or_true, true_or, decide_eq_true_eq, decide_true, decide_false, Bool.not_true, Bool.not_false, Bool.false_eq_true, if_true, if_false, ↓reduceIte, ne_eq, Nat.reduceLeDiff, Nat.reduceAdd, not_false_eq_true, not_true_eq_false, reduceCtorEq, Option.some.injEq, Int.reduceToNat, Int.reducePow, Int.reduceAdd, Int.reduceMul, Int.reduceSub, Int.reduceNeg, Int.reduceEq, List.nil_append, List.cons_append, ↓r_keep, ↓r_isExc, ↓r_indexM, ↓r_lstL, ↓r_eqF, ↓r_neF, ↓r_eqM, ↓r_neM, ↓r_isiFr, ↓r_eqB, ↓r_neB, beq_self_eq_true, ↓r_cutO, ↓r_cutOL, ↓r_cutOP])
    refine ⟨grwC a b c q, _, 3 * n + 1, rfl, grw_ok hq ba bb bc bq, nz_of_a (by show a ≠ 0; omega), by omega, ?_⟩
    exact h
def pr__law_moment : DSp := drawM 70 9
theorem len__law_moment : ∀ ds μ P PX, pr__law_moment ds μ P PX → ds.length = (["_law_purse_here"] : List Str).length := by
  rintro ds μ P PX ⟨p, m, rfl, _⟩
  rfl
theorem ok__law_moment {P : Program} {w : World} {K : PySem.W.Frag} {mg : Str → Option Value} {base : Heap} {f : Addr} {fd : FuncData} (F : Fun K "_law_moment" "_law_moment" s__law_moment f fd)
    (d__law_take : Df P w K mg base "_law_take" ["_law_purse_here", "_law_many"] 2 pr__law_take)
    (d__law_number : Df P w K mg base "_law_number" ["_law_purse_here"] 3 pr__law_number)
    (d__law_square_root : Df P w K mg base "_law_square_root" ["_law_number_here"] 1 pr__law_square_root)
    (d__law_low : Df P w K mg base "_law_low" ["_law_top", "_law_bottom"] 1 pr__law_low)
    (d__law_root : Df P w K mg base "_law_root" ["_law_a", "_law_b", "_law_c", "_law_side"] 2 pr__law_root) : FnOk P w K mg base (L2.CX P w) 4 f fd ["_law_purse_here"] (spD K pr__law_moment) := by
  have nd := sc__law_moment.nd
  refine fn_D (k := 3) F sc__law_moment len__law_moment (by decide) (fun cdv A outer s H E PX hr tk hp => ⟨_, (sd_cons (sd_if (pt_eq hr.units (pd_call d__law_take tk hr (by rfl) (da_cons (vr 0) (da_cons pd_int da_nil))) pd_int)
       (sd_one (sd_ret (pd_call d__law_number tk hr (by rfl) (da_cons (vr 0) da_nil))))
       sd_nil)
      (sd_cons (sd_set 1 nd (pd_add pd_int (pd_call d__law_take tk hr (by rfl) (da_cons (vr 0) (da_cons pd_int da_nil)))))
      (sd_cons (sd_set 2 nd (pd_sub (pd_call d__law_take tk hr (by rfl) (da_cons (vr 0) (da_cons pd_int da_nil))) pd_int))
      (sd_cons (sd_set 3 nd (pd_sub (pd_call d__law_take tk hr (by rfl) (da_cons (vr 0) (da_cons pd_int da_nil))) pd_int))
      (sd_cons (sd_set 4 nd (pd_sub (pd_mul (vr 2) (vr 2)) (pd_mul (pd_mul pd_int (vr 1)) (vr 3))))
      (sd_cons (sd_if (pt_w (dw_or (pt_lt (vr 4) pd_int) (dw_or1 (pt_eq hr.units (pd_mul (pd_call d__law_square_root tk hr (by rfl) (da_cons (vr 4) da_nil)) (pd_call d__law_square_root tk hr (by rfl) (da_cons (vr 4) da_nil))) (vr 4)))))
       (sd_one (sd_ret (pd_call d__law_low tk hr (by rfl) (da_cons (vr 2) (da_cons (vr 1) da_nil)))))
       sd_nil)
      (sd_one (sd_ret (pd_call d__law_root tk hr (by rfl) (da_cons (vr 1) (da_cons (vr 2) (da_cons (vr 3) (da_cons (pd_call d__law_take tk hr (by rfl) (da_cons (vr 0) (da_cons pd_int da_nil))) da_nil)))))))))))))⟩) ?_
  rintro ds μ P PX ⟨p, m, rfl, hp, hm, h⟩
  (try simp only [↓r_wm1, ↓r_wm2, ↓r_wm3, ↓r_wm4, ↓r_forT, ↓r_forI, ↓r_fU0, ↓r_fU1, ↓r_turn, ↓r_yes, ↓r_ofrz, ↓r_oown, ↓r_w0, ↓r_w1, ↓r_w2, ↓r_w3, ↓r_w4, ↓r_lcT, ↓r_lcI, ↓r_lcR, ↓r_cU0, ↓r_cU1, ↓r_s0, ↓r_n0, ↓r_s1, ↓r_n1, ↓r_s2, ↓r_n2, ↓r_s3, ↓r_n3, ↓r_s4, ↓r_n4, ↓r_s5, ↓r_n5, ↓r_s6, ↓r_n6, ↓r_s7, ↓r_n7, ↓r_s8, ↓r_n8, ↓r_s9, ↓r_n9, ↓r_s10, ↓r_n10, ↓r_s11, ↓r_n11, ↓r_s12, ↓r_n12, ↓r_s13, ↓r_n13, ↓r_s14, ↓r_n14, ↓r_s15, ↓r_n15, ↓r_s16, ↓r_n16, ↓r_s17, ↓r_n17, ↓r_s18, ↓r_n18, ↓r_s19, ↓r_n19, ↓r_s20, ↓r_n20, ↓r_s21, ↓r_n21, ↓r_s22, ↓r_n22, ↓r_s23, ↓r_n23, ↓r_s24, ↓r_n24, ↓r_s25, ↓r_n25, ↓r_fr0, ↓r_fr1, ↓r_frL, ↓r_frN, ↓r_frNN, ↓r_max3, ↓r_seq, ↓r_next, ↓r_var0, ↓r_varS, ↓r_c, ↓r_op, ↓r_addI, ↓r_addS, ↓r_addT, ↓r_addL, ↓r_sub, ↓r_mul, ↓r_div, ↓r_mod, ↓r_pow, ↓r_lt, ↓r_le, ↓r_gt, ↓r_ge, ↓r_eqI, ↓r_neI, ↓r_isN, ↓r_isT, ↓r_isI, ↓r_isR, ↓r_inN, ↓r_inT, ↓r_inI, ↓r_ixT, ↓r_ixLs, ↓r_ixRo, ↓r_ixP, ↓r_at0, ↓r_at1, ↓r_at2, ↓r_at3, ↓r_neg, ↓r_negC, ↓r_b, ↓r_bl, ↓r_and, ↓r_or, ↓r_not, ↓r_andV, ↓r_orV, ↓r_notV, ↓r_bl', ↓r_if, ↓r_ifS, ↓r_asg, ↓r_name, ↓r_jnil, ↓r_jcons, ↓r_jtup, ↓r_jlst, ↓r_jlstP, ↓r_jsub, ↓r_jcut, ↓r_jcutP, ↓r_jcutA, ↓r_in2, ↓r_stP, ↓r_st0, ↓r_st1, ↓r_st2, ↓r_par, ↓r_ret, ↓r_retN, ↓r_drop, ↓r_brk, ↓r_cont, ↓r_raise, ↓r_nil, ↓r_cons, ↓r_tup, ↓r_lst, ↓r_new, ↓r_frz, ↓r_frzP, ↓r_cb, ↓r_call, ↓r_abs, ↓r_max, ↓r_min, ↓r_intI, ↓r_intB, ↓r_lenT, ↓r_lenL, ↓r_lenR, ↓r_lenP, ↓r_listL, ↓r_listR, ↓r_listOL, ↓r_tupleL, ↓r_tupleP, ↓r_isiII, ↓r_isiIB, ↓r_isiBI, ↓r_isiBB, ↓r_isiTT, ↓r_isiLL, ↓r_app, ↓r_appP, ↓r_clr, ↓r_clrP, ↓r_lstP, ↓r_cut, ↓r_onone, ↓r_osome, ↓r_int', ↓r_cutT, ↓r_cutLs, ↓r_cutP, ↓r_range1, ↓r_rg1, ↓rs0, ↓rsS, ↓ite_dec, ↓ite_ndec, ↓put_put, startD, List.length_cons, List.length_nil, and_assoc, and_true, true_and, and_self, or_self, or_false, false_or, or_true, true_or, decide_eq_true_eq, decide_true, decide_false, Bool.not_true, Bool.not_false, Bool.false_eq_true, if_true, if_false, ↓reduceIte, ne_eq, Nat.reduceLeDiff, Nat.reduceAdd, not_false_eq_true, not_true_eq_false, reduceCtorEq, Option.some.injEq, Int.reduceToNat, Int.reducePow, Int.reduceAdd, Int.reduceMul, Int.reduceSub, Int.reduceNeg, Int.reduceEq, List.nil_append, List.cons_append, ↓r_keep, ↓r_isExc, ↓r_indexM, ↓r_lstL, ↓r_eqF, ↓r_neF, ↓r_eqM, ↓r_neM, ↓r_isiFr, ↓r_eqB, ↓r_neB, beq_self_eq_true, ↓r_cutO, ↓r_cutOL, ↓r_cutOP])
  refine ⟨p, 2, m, rfl, hp, by omega, by decide, by decide, fun r d1 r0 r1 h1 => ?_⟩
  (try simp only [↓r_wm1, ↓r_wm2, ↓r_wm3, ↓r_wm4, ↓r_forT, ↓r_forI, ↓r_fU0, ↓r_fU1, ↓r_turn, ↓r_yes, ↓r_ofrz, ↓r_oown, ↓r_w0, ↓r_w1, ↓r_w2, ↓r_w3, ↓r_w4, ↓r_lcT, ↓r_lcI, ↓r_lcR, ↓r_cU0, ↓r_cU1, ↓r_s0, ↓r_n0, ↓r_s1, ↓r_n1, ↓r_s2, ↓r_n2, ↓r_s3, ↓r_n3, ↓r_s4, ↓r_n4, ↓r_s5, ↓r_n5, ↓r_s6, ↓r_n6, ↓r_s7, ↓r_n7, ↓r_s8, ↓r_n8, ↓r_s9, ↓r_n9, ↓r_s10, ↓r_n10, ↓r_s11, ↓r_n11, ↓r_s12, ↓r_n12, ↓r_s13, ↓r_n13, ↓r_s14, ↓r_n14, ↓r_s15, ↓r_n15, ↓r_s16, ↓r_n16, ↓r_s17, ↓r_n17, ↓r_s18, ↓r_n18, ↓r_s19, ↓r_n19, ↓r_s20, ↓r_n20, ↓r_s21, ↓r_n21, ↓r_s22, ↓r_n22, ↓r_s23, ↓r_n23, ↓r_s24, ↓r_n24, ↓r_s25, ↓r_n25, ↓r_fr0, ↓r_fr1, ↓r_frL, ↓r_frN, ↓r_frNN, ↓r_max3, ↓r_seq, ↓r_next, ↓r_var0, ↓r_varS, ↓r_c, ↓r_op, ↓r_addI, ↓r_addS, ↓r_addT, ↓r_addL, ↓r_sub, ↓r_mul, ↓r_div, ↓r_mod, ↓r_pow, ↓r_lt, ↓r_le, ↓r_gt, ↓r_ge, ↓r_eqI, ↓r_neI, ↓r_isN, ↓r_isT, ↓r_isI, ↓r_isR, ↓r_inN, ↓r_inT, ↓r_inI, ↓r_ixT, ↓r_ixLs, ↓r_ixRo, ↓r_ixP, ↓r_at0, ↓r_at1, ↓r_at2, ↓r_at3, ↓r_neg, ↓r_negC, ↓r_b, ↓r_bl, ↓r_and, ↓r_or, ↓r_not, ↓r_andV, ↓r_orV, ↓r_notV, ↓r_bl', ↓r_if, ↓r_ifS, ↓r_asg, ↓r_name, ↓r_jnil, ↓r_jcons, ↓r_jtup, ↓r_jlst, ↓r_jlstP, ↓r_jsub, ↓r_jcut, ↓r_jcutP, ↓r_jcutA, ↓r_in2, ↓r_stP, ↓r_st0, ↓r_st1, ↓r_st2, ↓r_par, ↓r_ret, ↓r_retN, ↓r_drop, ↓r_brk, ↓r_cont, ↓r_raise, ↓r_nil, ↓r_cons, ↓r_tup, ↓r_lst, ↓r_new, ↓r_frz, ↓r_frzP, ↓r_cb, ↓r_call, ↓r_abs, ↓r_max, ↓r_min, ↓r_intI, ↓r_intB, ↓r_lenT, ↓r_lenL, ↓r_lenR, ↓r_lenP, ↓r_listL, ↓r_listR, ↓r_listOL, ↓r_tupleL, ↓r_tupleP, ↓r_isiII, ↓r_isiIB, ↓r_isiBI, ↓r_isiBB, ↓r_isiTT, ↓r_isiLL, ↓r_app, ↓r_appP, ↓r_clr, ↓r_clrP, ↓r_lstP, ↓r_cut, ↓r_onone, ↓r_osome, ↓r_int', ↓r_cutT, ↓r_cutLs, ↓r_cutP, ↓r_range1, ↓r_rg1, ↓rs0, ↓rsS, ↓ite_dec, ↓ite_ndec, ↓put_put, startD, List.length_cons, List.length_nil, and_assoc, and_true, true_and, and_self, or_self, or_false, false_or, or_true, true_or, decide_eq_true_eq, decide_true, decide_false, Bool.not_true, Bool.not_false, Bool.false_eq_true, if_true, if_false, ↓reduceIte, ne_eq, Nat.reduceLeDiff, Nat.reduceAdd, not_false_eq_true, not_true_eq_false, reduceCtorEq, Option.some.injEq, Int.reduceToNat, Int.reducePow, Int.reduceAdd, Int.reduceMul, Int.reduceSub, Int.reduceNeg, Int.reduceEq, List.nil_append, List.cons_append, ↓r_keep, ↓r_isExc, ↓r_indexM, ↓r_lstL, ↓r_eqF, ↓r_neF, ↓r_eqM, ↓r_neM, ↓r_isiFr, ↓r_eqB, ↓r_neB, beq_self_eq_true, ↓r_cutO, ↓r_cutOL, ↓r_cutOP])
  split
  · refine ⟨p, _, rfl, h1, by omega, fun q d2 q1 q2 h2 => ?_⟩
    (try simp only [↓r_wm1, ↓r_wm2, ↓r_wm3, ↓r_wm4, ↓r_forT, ↓r_forI, ↓r_fU0, ↓r_fU1, ↓r_turn, ↓r_yes, ↓r_ofrz, ↓r_oown, ↓r_w0, ↓r_w1, ↓r_w2, ↓r_w3, ↓r_w4, ↓r_lcT, ↓r_lcI, ↓r_lcR, ↓r_cU0, ↓r_cU1, ↓r_s0, ↓r_n0, ↓r_s1, ↓r_n1, ↓r_s2, ↓r_n2, ↓r_s3, ↓r_n3, ↓r_s4, ↓r_n4, ↓r_s5, ↓r_n5, ↓r_s6, ↓r_n6, ↓r_s7, ↓r_n7, ↓r_s8, ↓r_n8, ↓r_s9, ↓r_n9, ↓r_s10, ↓r_n10, ↓r_s11, ↓r_n11, ↓r_s12, ↓r_n12, ↓r_s13, ↓r_n13, ↓r_s14, ↓r_n14, ↓r_s15, ↓r_n15, ↓r_s16, ↓r_n16, ↓r_s17, ↓r_n17, ↓r_s18, ↓r_n18, ↓r_s19, ↓r_n19, ↓r_s20, ↓r_n20, ↓r_s21, ↓r_n21, ↓r_s22, ↓r_n22, ↓r_s23, ↓r_n23, ↓r_s24, ↓r_n24, ↓r_s25, ↓r_n25, ↓r_fr0, ↓r_fr1, ↓r_frL, ↓r_frN, ↓r_frNN, ↓r_max3, ↓r_seq, ↓r_next, ↓r_var0, ↓r_varS, ↓r_c, ↓r_op, ↓r_addI, ↓r_addS, ↓r_addT, ↓r_addL, ↓r_sub, ↓r_mul, ↓r_div, ↓r_mod, ↓r_pow, ↓r_lt, ↓r_le, ↓r_gt, ↓r_ge, ↓r_eqI, ↓r_neI, ↓r_isN, ↓r_isT, ↓r_isI, ↓r_isR, ↓r_inN, ↓r_inT, ↓r_inI, ↓r_ixT, ↓r_ixLs, ↓r_ixRo, ↓r_ixP, ↓r_at0, ↓r_at1, ↓r_at2, ↓r_at3, ↓r_neg, ↓r_negC, ↓r_b, ↓r_bl, ↓r_and, ↓r_or, ↓r_not, ↓r_andV, ↓r_orV, ↓r_notV, ↓r_bl', ↓r_if, ↓r_ifS, ↓r_asg, ↓r_name, ↓r_jnil, ↓r_jcons, ↓r_jtup, ↓r_jlst, ↓r_jlstP, ↓r_jsub, ↓r_jcut, ↓r_jcutP, ↓r_jcutA, ↓r_in2, ↓r_stP, ↓r_st0, ↓r_st1, ↓r_st2, ↓r_par, ↓r_ret, ↓r_retN, ↓r_drop, ↓r_brk, ↓r_cont, ↓r_raise, ↓r_nil, ↓r_cons, ↓r_tup, ↓r_lst, ↓r_new, ↓r_frz, ↓r_frzP, ↓r_cb, ↓r_call, ↓r_abs, ↓r_max, ↓r_min, ↓r_intI, ↓r_intB, ↓r_lenT, ↓r_lenL, ↓r_lenR, ↓r_lenP, ↓r_listL, ↓r_listR, ↓r_listOL, ↓r_tupleL, ↓r_tupleP, ↓r_isiII, ↓r_isiIB, ↓r_isiBI, ↓r_isiBB, ↓r_isiTT, ↓r_isiLL, ↓r_app, ↓r_appP, ↓r_clr, ↓r_clrP, ↓r_lstP, ↓r_cut, ↓r_onone, ↓r_osome, ↓r_int', ↓r_cutT, ↓r_cutLs, ↓r_cutP, ↓r_range1, ↓r_rg1, ↓rs0, ↓rsS, ↓ite_dec, ↓ite_ndec, ↓put_put, startD, List.length_cons, List.length_nil, and_assoc, and_true, true_and, and_self, or_self, or_false, false_or, or_true, true_or, decide_eq_true_eq, decide_true, decide_false, Bool.not_true, Bool.not_false, Bool.false_eq_true, if_true, if_false, ↓reduceIte, ne_eq, Nat.reduceLeDiff, Nat.reduceAdd, not_false_eq_true, not_true_eq_false, reduceCtorEq, Option.some.injEq, Int.reduceToNat, Int.reducePow, Int.reduceAdd, Int.reduceMul, Int.reduceSub, Int.reduceNeg, Int.reduceEq, List.nil_append, List.cons_append, ↓r_keep, ↓r_isExc, ↓r_indexM, ↓r_lstL, ↓r_eqF, ↓r_neF, ↓r_eqM, ↓r_neM, ↓r_isiFr, ↓r_eqB, ↓r_neB, beq_self_eq_true, ↓r_cutO, ↓r_cutOL, ↓r_cutOP])
    exact h (.q q) d2 ⟨q1, q2.mono (by decide)⟩ trivial (h2.put.mono (by omega))
  refine ⟨p, 4, _, rfl, h1, by omega, by decide, by decide, fun a d2 a0 a1 h2 => ?_⟩
  (try simp only [↓r_wm1, ↓r_wm2, ↓r_wm3, ↓r_wm4, ↓r_forT, ↓r_forI, ↓r_fU0, ↓r_fU1, ↓r_turn, ↓r_yes, ↓r_ofrz, ↓r_oown, ↓r_w0, ↓r_w1, ↓r_w2, ↓r_w3, ↓r_w4, ↓r_lcT, ↓r_lcI, ↓r_lcR, ↓r_cU0, ↓r_cU1, ↓r_s0, ↓r_n0, ↓r_s1, ↓r_n1, ↓r_s2, ↓r_n2, ↓r_s3, ↓r_n3, ↓r_s4, ↓r_n4, ↓r_s5, ↓r_n5, ↓r_s6, ↓r_n6, ↓r_s7, ↓r_n7, ↓r_s8, ↓r_n8, ↓r_s9, ↓r_n9, ↓r_s10, ↓r_n10, ↓r_s11, ↓r_n11, ↓r_s12, ↓r_n12, ↓r_s13, ↓r_n13, ↓r_s14, ↓r_n14, ↓r_s15, ↓r_n15, ↓r_s16, ↓r_n16, ↓r_s17, ↓r_n17, ↓r_s18, ↓r_n18, ↓r_s19, ↓r_n19, ↓r_s20, ↓r_n20, ↓r_s21, ↓r_n21, ↓r_s22, ↓r_n22, ↓r_s23, ↓r_n23, ↓r_s24, ↓r_n24, ↓r_s25, ↓r_n25, ↓r_fr0, ↓r_fr1, ↓r_frL, ↓r_frN, ↓r_frNN, ↓r_max3, ↓r_seq, ↓r_next, ↓r_var0, ↓r_varS, ↓r_c, ↓r_op, ↓r_addI, ↓r_addS, ↓r_addT, ↓r_addL, ↓r_sub, ↓r_mul, ↓r_div, ↓r_mod, ↓r_pow, ↓r_lt, ↓r_le, ↓r_gt, ↓r_ge, ↓r_eqI, ↓r_neI, ↓r_isN, ↓r_isT, ↓r_isI, ↓r_isR, ↓r_inN, ↓r_inT, ↓r_inI, ↓r_ixT, ↓r_ixLs, ↓r_ixRo, ↓r_ixP, ↓r_at0, ↓r_at1, ↓r_at2, ↓r_at3, ↓r_neg, ↓r_negC, ↓r_b, ↓r_bl, ↓r_and, ↓r_or, ↓r_not, ↓r_andV, ↓r_orV, ↓r_notV, ↓r_bl', ↓r_if, ↓r_ifS, ↓r_asg, ↓r_name, ↓r_jnil, ↓r_jcons, ↓r_jtup, ↓r_jlst, ↓r_jlstP, ↓r_jsub, ↓r_jcut, ↓r_jcutP, ↓r_jcutA, ↓r_in2, ↓r_stP, ↓r_st0, ↓r_st1, ↓r_st2, ↓r_par, ↓r_ret, ↓r_retN, ↓r_drop, ↓r_brk, ↓r_cont, ↓r_raise, ↓r_nil, ↓r_cons, ↓r_tup, ↓r_lst, ↓r_new, ↓r_frz, ↓r_frzP, ↓r_cb, ↓r_call, ↓r_abs, ↓r_max, ↓r_min, ↓r_intI, ↓r_intB, ↓r_lenT, ↓r_lenL, ↓r_lenR, ↓r_lenP, ↓r_listL, ↓r_listR, ↓r_listOL, ↓r_tupleL, ↓r_tupleP, ↓r_isiII, ↓r_isiIB, ↓r_isiBI, ↓r_isiBB, ↓r_isiTT, ↓r_isiLL, ↓r_app, ↓r_appP, ↓r_clr, ↓r_clrP, ↓r_lstP, ↓r_cut, ↓r_onone, ↓r_osome, ↓r_int', ↓r_cutT, ↓r_cutLs, ↓r_cutP, ↓r_range1, ↓r_rg1, ↓rs0, ↓rsS, ↓ite_dec, ↓ite_ndec, ↓put_put, startD, List.length_cons, List.length_nil, and_assoc, and_true, true_and, and_self, or_self, or_false, false_or, or_true, true_or, decide_eq_true_eq, decide_true, decide_false, Bool.not_true, Bool.not_false, Bool.false_eq_true, if_true, if_false, ↓reduceIte, ne_eq, Nat.reduceLeDiff, Nat.reduceAdd, not_false_eq_true, not_true_eq_false, reduceCtorEq, Option.some.injEq, Int.reduceToNat, Int.reducePow, Int.reduceAdd, Int.reduceMul, Int.reduceSub, Int.reduceNeg, Int.reduceEq, List.nil_append, List.cons_append, ↓r_keep, ↓r_isExc, ↓r_indexM, ↓r_lstL, ↓r_eqF, ↓r_neF, ↓r_eqM, ↓r_neM, ↓r_isiFr, ↓r_eqB, ↓r_neB, beq_self_eq_true, ↓r_cutO, ↓r_cutOL, ↓r_cutOP])
  refine ⟨p, 11, _, rfl, h2.put, by omega, by decide, by decide, fun b d3 b0 b1 h3 => ?_⟩
  (try simp only [↓r_wm1, ↓r_wm2, ↓r_wm3, ↓r_wm4, ↓r_forT, ↓r_forI, ↓r_fU0, ↓r_fU1, ↓r_turn, ↓r_yes, ↓r_ofrz, ↓r_oown, ↓r_w0, ↓r_w1, ↓r_w2, ↓r_w3, ↓r_w4, ↓r_lcT, ↓r_lcI, ↓r_lcR, ↓r_cU0, ↓r_cU1, ↓r_s0, ↓r_n0, ↓r_s1, ↓r_n1, ↓r_s2, ↓r_n2, ↓r_s3, ↓r_n3, ↓r_s4, ↓r_n4, ↓r_s5, ↓r_n5, ↓r_s6, ↓r_n6, ↓r_s7, ↓r_n7, ↓r_s8, ↓r_n8, ↓r_s9, ↓r_n9, ↓r_s10, ↓r_n10, ↓r_s11, ↓r_n11, ↓r_s12, ↓r_n12, ↓r_s13, ↓r_n13, ↓r_s14, ↓r_n14, ↓r_s15, ↓r_n15, ↓r_s16, ↓r_n16, ↓r_s17, ↓r_n17, ↓r_s18, ↓r_n18, ↓r_s19, ↓r_n19, ↓r_s20, ↓r_n20, ↓r_s21, ↓r_n21, ↓r_s22, ↓r_n22, ↓r_s23, ↓r_n23, ↓r_s24, ↓r_n24, ↓r_s25, ↓r_n25, ↓r_fr0, ↓r_fr1, ↓r_frL, ↓r_frN, ↓r_frNN, ↓r_max3, ↓r_seq, ↓r_next, ↓r_var0, ↓r_varS, ↓r_c, ↓r_op, ↓r_addI, ↓r_addS, ↓r_addT, ↓r_addL, ↓r_sub, ↓r_mul, ↓r_div, ↓r_mod, ↓r_pow, ↓r_lt, ↓r_le, ↓r_gt, ↓r_ge, ↓r_eqI, ↓r_neI, ↓r_isN, ↓r_isT, ↓r_isI, ↓r_isR, ↓r_inN, ↓r_inT, ↓r_inI, ↓r_ixT, ↓r_ixLs, ↓r_ixRo, ↓r_ixP, ↓r_at0, ↓r_at1, ↓r_at2, ↓r_at3, ↓r_neg, ↓r_negC, ↓r_b, ↓r_bl, ↓r_and, ↓r_or, ↓r_not, ↓r_andV, ↓r_orV, ↓r_notV, ↓r_bl', ↓r_if, ↓r_ifS, ↓r_asg, ↓r_name, ↓r_jnil, ↓r_jcons, ↓r_jtup, ↓r_jlst, ↓r_jlstP, ↓r_jsub, ↓r_jcut, ↓r_jcutP, ↓r_jcutA, ↓r_in2, ↓r_stP, ↓r_st0, ↓r_st1, ↓r_st2, ↓r_par, ↓r_ret, ↓r_retN, ↓r_drop, ↓r_brk, ↓r_cont, ↓r_raise, ↓r_nil, ↓r_cons, ↓r_tup, ↓r_lst, ↓r_new, ↓r_frz, ↓r_frzP, ↓r_cb, ↓r_call, ↓r_abs, ↓r_max, ↓r_min, ↓r_intI, ↓r_intB, ↓r_lenT, ↓r_lenL, ↓r_lenR, ↓r_lenP, ↓r_listL, ↓r_listR, ↓r_listOL, ↓r_tupleL, ↓r_tupleP, ↓r_isiII, ↓r_isiIB, ↓r_isiBI, ↓r_isiBB, ↓r_isiTT, ↓r_isiLL, ↓r_app, ↓r_appP, ↓r_clr, ↓r_clrP, ↓r_lstP, ↓r_cut, ↓r_onone, ↓r_osome, ↓r_int', ↓r_cutT, ↓r_cutLs, ↓r_cutP, ↓r_range1, ↓r_rg1, ↓rs0, ↓rsS, ↓ite_dec, ↓ite_ndec, ↓put_put, startD, List.length_cons, List.length_nil, and_assoc, and_true, true_and, and_self, or_self, or_false, false_or, or_true, true_or, decide_eq_true_eq, decide_true, decide_false, Bool.not_true, Bool.not_false, Bool.false_eq_true, if_true, if_false, ↓reduceIte, ne_eq, Nat.reduceLeDiff, Nat.reduceAdd, not_false_eq_true, not_true_eq_false, reduceCtorEq, Option.some.injEq, Int.reduceToNat, Int.reducePow, Int.reduceAdd, Int.reduceMul, Int.reduceSub, Int.reduceNeg, Int.reduceEq, List.nil_append, List.cons_append, ↓r_keep, ↓r_isExc, ↓r_indexM, ↓r_lstL, ↓r_eqF, ↓r_neF, ↓r_eqM, ↓r_neM, ↓r_isiFr, ↓r_eqB, ↓r_neB, beq_self_eq_true, ↓r_cutO, ↓r_cutOL, ↓r_cutOP])
  refine ⟨p, 13, _, rfl, h3.put, by omega, by decide, by decide, fun c d4 e0 e1 h4 => ?_⟩
  have h5 := h4.put
  have ba : Bd 10 (1 + a) := Bd.two (by omega) (by omega)
  have bb : Bd 10 (b - 5) := Bd.two (by omega) (by omega)
  have bc : Bd 10 (c - 9) := Bd.two (by omega) (by omega)
  have a0 : 0 < 1 + a := by omega
  have b4 : Bd 3 4 := by decide
  have bd := ((bb.mul bb).sub ((b4.mul ba).mul bc)).mono (show _ ≤ 100 by decide)
  have m1 : MulC (b - 5) (b - 5) := mulC bb bb
  have m2 : MulC 4 (1 + a) := mulC b4 ba
  have m3 : MulC (4 * (1 + a)) (c - 9) := mulC (b4.mul ba) bc
  (try simp only [↓r_wm1, ↓r_wm2, ↓r_wm3, ↓r_wm4, ↓r_forT, ↓r_forI, ↓r_fU0, ↓r_fU1, ↓r_turn, ↓r_yes, ↓r_ofrz, ↓r_oown, ↓r_w0, ↓r_w1, ↓r_w2, ↓r_w3, ↓r_w4, ↓r_lcT, ↓r_lcI, ↓r_lcR, ↓r_cU0, ↓r_cU1, ↓r_s0, ↓r_n0, ↓r_s1, ↓r_n1, ↓r_s2, ↓r_n2, ↓r_s3, ↓r_n3, ↓r_s4, ↓r_n4, ↓r_s5, ↓r_n5, ↓r_s6, ↓r_n6, ↓r_s7, ↓r_n7, ↓r_s8, ↓r_n8, ↓r_s9, ↓r_n9, ↓r_s10, ↓r_n10, ↓r_s11, ↓r_n11, ↓r_s12, ↓r_n12, ↓r_s13, ↓r_n13, ↓r_s14, ↓r_n14, ↓r_s15, ↓r_n15, ↓r_s16, ↓r_n16, ↓r_s17, ↓r_n17, ↓r_s18, ↓r_n18, ↓r_s19, ↓r_n19, ↓r_s20, ↓r_n20, ↓r_s21, ↓r_n21, ↓r_s22, ↓r_n22, ↓r_s23, ↓r_n23, ↓r_s24, ↓r_n24, ↓r_s25, ↓r_n25, ↓r_fr0, ↓r_fr1, ↓r_frL, ↓r_frN, ↓r_frNN, ↓r_max3, ↓r_seq, ↓r_next, ↓r_var0, ↓r_varS, ↓r_c, ↓r_op, ↓r_addI, ↓r_addS, ↓r_addT, ↓r_addL, ↓r_sub, ↓r_mul, ↓r_div, ↓r_mod, ↓r_pow, ↓r_lt, ↓r_le, ↓r_gt, ↓r_ge, ↓r_eqI, ↓r_neI, ↓r_isN, ↓r_isT, ↓r_isI, ↓r_isR, ↓r_inN, ↓r_inT, ↓r_inI, ↓r_ixT, ↓r_ixLs, ↓r_ixRo, ↓r_ixP, ↓r_at0, ↓r_at1, ↓r_at2, ↓r_at3, ↓r_neg, ↓r_negC, ↓r_b, ↓r_bl, ↓r_and, ↓r_or, ↓r_not, ↓r_andV, ↓r_orV, ↓r_notV, ↓r_bl', ↓r_if, ↓r_ifS, ↓r_asg, ↓r_name, ↓r_jnil, ↓r_jcons, ↓r_jtup, ↓r_jlst, ↓r_jlstP, ↓r_jsub, ↓r_jcut, ↓r_jcutP, ↓r_jcutA, ↓r_in2, ↓r_stP, ↓r_st0, ↓r_st1, ↓r_st2, ↓r_par, ↓r_ret, ↓r_retN, ↓r_drop, ↓r_brk, ↓r_cont, ↓r_raise, ↓r_nil, ↓r_cons, ↓r_tup, ↓r_lst, ↓r_new, ↓r_frz, ↓r_frzP, ↓r_cb, ↓r_call, ↓r_abs, ↓r_max, ↓r_min, ↓r_intI, ↓r_intB, ↓r_lenT, ↓r_lenL, ↓r_lenR, ↓r_lenP, ↓r_listL, ↓r_listR, ↓r_listOL, ↓r_tupleL, ↓r_tupleP, ↓r_isiII, ↓r_isiIB, ↓r_isiBI, ↓r_isiBB, ↓r_isiTT, ↓r_isiLL, ↓r_app, ↓r_appP, ↓r_clr, ↓r_clrP, ↓r_lstP, ↓r_cut, ↓r_onone, ↓r_osome, ↓r_int', ↓r_cutT, ↓r_cutLs, ↓r_cutP, ↓r_range1, ↓r_rg1, ↓rs0, ↓rsS, ↓ite_dec, ↓ite_ndec, ↓put_put, startD, List.length_cons, List.length_nil, and_assoc, and_true, true_and, and_self, or_self, or_false, false_or, or_true, true_or, decide_eq_true_eq, decide_true, decide_false, Bool.not_true, Bool.not_false, Bool.false_eq_true, if_true, if_false, ↓reduceIte, ne_eq, Nat.reduceLeDiff, Nat.reduceAdd, not_false_eq_true, not_true_eq_false, reduceCtorEq, Option.some.injEq, Int.reduceToNat, Int.reducePow, Int.reduceAdd, Int.reduceMul, Int.reduceSub, Int.reduceNeg, Int.reduceEq, List.nil_append, List.cons_append, ↓r_keep, ↓r_isExc, ↓r_indexM, ↓r_lstL, ↓r_eqF, ↓r_neF, ↓r_eqM, ↓r_neM, ↓r_isiFr, ↓r_eqB, ↓r_neB, beq_self_eq_true, ↓r_cutO, ↓r_cutOL, ↓r_cutOP, m1, m2, m3])
  generalize 1 + a = x at *
  generalize b - 5 = y at *
  generalize c - 9 = z at *
  have lw : P (fr (low y x)) (put μ p (.lst d4)) := h (.q _) d4 (low_ok (by omega) (bb.mono (by decide)) (ba.mono (by decide))) trivial (h5.mono (by omega))
  split
  · refine ⟨y, x, rfl, by omega, ba.mono (by decide), ?_⟩
    (try simp only [↓r_wm1, ↓r_wm2, ↓r_wm3, ↓r_wm4, ↓r_forT, ↓r_forI, ↓r_fU0, ↓r_fU1, ↓r_turn, ↓r_yes, ↓r_ofrz, ↓r_oown, ↓r_w0, ↓r_w1, ↓r_w2, ↓r_w3, ↓r_w4, ↓r_lcT, ↓r_lcI, ↓r_lcR, ↓r_cU0, ↓r_cU1, ↓r_s0, ↓r_n0, ↓r_s1, ↓r_n1, ↓r_s2, ↓r_n2, ↓r_s3, ↓r_n3, ↓r_s4, ↓r_n4, ↓r_s5, ↓r_n5, ↓r_s6, ↓r_n6, ↓r_s7, ↓r_n7, ↓r_s8, ↓r_n8, ↓r_s9, ↓r_n9, ↓r_s10, ↓r_n10, ↓r_s11, ↓r_n11, ↓r_s12, ↓r_n12, ↓r_s13, ↓r_n13, ↓r_s14, ↓r_n14, ↓r_s15, ↓r_n15, ↓r_s16, ↓r_n16, ↓r_s17, ↓r_n17, ↓r_s18, ↓r_n18, ↓r_s19, ↓r_n19, ↓r_s20, ↓r_n20, ↓r_s21, ↓r_n21, ↓r_s22, ↓r_n22, ↓r_s23, ↓r_n23, ↓r_s24, ↓r_n24, ↓r_s25, ↓r_n25, ↓r_fr0, ↓r_fr1, ↓r_frL, ↓r_frN, ↓r_frNN, ↓r_max3, ↓r_seq, ↓r_next, ↓r_var0, ↓r_varS, ↓r_c, ↓r_op, ↓r_addI, ↓r_addS, ↓r_addT, ↓r_addL, ↓r_sub, ↓r_mul, ↓r_div, ↓r_mod, ↓r_pow, ↓r_lt, ↓r_le, ↓r_gt, ↓r_ge, ↓r_eqI, ↓r_neI, ↓r_isN, ↓r_isT, ↓r_isI, ↓r_isR, ↓r_inN, ↓r_inT, ↓r_inI, ↓r_ixT, ↓r_ixLs, ↓r_ixRo, ↓r_ixP, ↓r_at0, ↓r_at1, ↓r_at2, ↓r_at3, ↓r_neg, ↓r_negC, ↓r_b, ↓r_bl, ↓r_and, ↓r_or, ↓r_not, ↓r_andV, ↓r_orV, ↓r_notV, ↓r_bl', ↓r_if, ↓r_ifS, ↓r_asg, ↓r_name, ↓r_jnil, ↓r_jcons, ↓r_jtup, ↓r_jlst, ↓r_jlstP, ↓r_jsub, ↓r_jcut, ↓r_jcutP, ↓r_jcutA, ↓r_in2, ↓r_stP, ↓r_st0, ↓r_st1, ↓r_st2, ↓r_par, ↓r_ret, ↓r_retN, ↓r_drop, ↓r_brk, ↓r_cont, ↓r_raise, ↓r_nil, ↓r_cons, ↓r_tup, ↓r_lst, ↓r_new, ↓r_frz, ↓r_frzP, ↓r_cb, ↓r_call, ↓r_abs, ↓r_max, ↓r_min, ↓r_intI, ↓r_intB, ↓r_lenT, ↓r_lenL, ↓r_lenR, ↓r_lenP, ↓r_listL, ↓r_listR, ↓r_listOL, ↓r_tupleL, ↓r_tupleP, ↓r_isiII, ↓r_isiIB, ↓r_isiBI, ↓r_isiBB, ↓r_isiTT, ↓r_isiLL, ↓r_app, ↓r_appP, ↓r_clr, ↓r_clrP, ↓r_lstP, ↓r_cut, ↓r_onone, ↓r_osome, ↓r_int', ↓r_cutT, ↓r_cutLs, ↓r_cutP, ↓r_range1, ↓r_rg1, ↓rs0, ↓rsS, ↓ite_dec, ↓ite_ndec, ↓put_put, startD, List.length_cons, List.length_nil, and_assoc, and_true, true_and, and_self, or_self, or_false, false_or, or_true, true_or, decide_eq_true_eq, decide_true, decide_false, Bool.not_true, Bool.not_false, Bool.false_eq_true, if_true, if_false, ↓reduceIte, ne_eq, Nat.reduceLeDiff, Nat.reduceAdd, not_false_eq_true, not_true_eq_false, reduceCtorEq, Option.some.injEq, Int.reduceToNat, Int.reducePow, Int.reduceAdd, Int.reduceMul, Int.reduceSub, Int.reduceNeg, Int.reduceEq, List.nil_append, List.cons_append, ↓r_keep, ↓r_isExc, ↓r_indexM, ↓r_lstL, ↓r_eqF, ↓r_neF, ↓r_eqM, ↓r_neM, ↓r_isiFr, ↓r_eqB, ↓r_neB, beq_self_eq_true, ↓r_cutO, ↓r_cutOL, ↓r_cutOP])
    exact lw
  · rename_i hd
    have d0 : 0 ≤ y * y - 4 * x * z := by omega
    refine ⟨_, rfl, d0, bd.mono (by decide), fun u u0 u1 u2 => ?_⟩
    (try simp only [↓r_wm1, ↓r_wm2, ↓r_wm3, ↓r_wm4, ↓r_forT, ↓r_forI, ↓r_fU0, ↓r_fU1, ↓r_turn, ↓r_yes, ↓r_ofrz, ↓r_oown, ↓r_w0, ↓r_w1, ↓r_w2, ↓r_w3, ↓r_w4, ↓r_lcT, ↓r_lcI, ↓r_lcR, ↓r_cU0, ↓r_cU1, ↓r_s0, ↓r_n0, ↓r_s1, ↓r_n1, ↓r_s2, ↓r_n2, ↓r_s3, ↓r_n3, ↓r_s4, ↓r_n4, ↓r_s5, ↓r_n5, ↓r_s6, ↓r_n6, ↓r_s7, ↓r_n7, ↓r_s8, ↓r_n8, ↓r_s9, ↓r_n9, ↓r_s10, ↓r_n10, ↓r_s11, ↓r_n11, ↓r_s12, ↓r_n12, ↓r_s13, ↓r_n13, ↓r_s14, ↓r_n14, ↓r_s15, ↓r_n15, ↓r_s16, ↓r_n16, ↓r_s17, ↓r_n17, ↓r_s18, ↓r_n18, ↓r_s19, ↓r_n19, ↓r_s20, ↓r_n20, ↓r_s21, ↓r_n21, ↓r_s22, ↓r_n22, ↓r_s23, ↓r_n23, ↓r_s24, ↓r_n24, ↓r_s25, ↓r_n25, ↓r_fr0, ↓r_fr1, ↓r_frL, ↓r_frN, ↓r_frNN, ↓r_max3, ↓r_seq, ↓r_next, ↓r_var0, ↓r_varS, ↓r_c, ↓r_op, ↓r_addI, ↓r_addS, ↓r_addT, ↓r_addL, ↓r_sub, ↓r_mul, ↓r_div, ↓r_mod, ↓r_pow, ↓r_lt, ↓r_le, ↓r_gt, ↓r_ge, ↓r_eqI, ↓r_neI, ↓r_isN, ↓r_isT, ↓r_isI, ↓r_isR, ↓r_inN, ↓r_inT, ↓r_inI, ↓r_ixT, ↓r_ixLs, ↓r_ixRo, ↓r_ixP, ↓r_at0, ↓r_at1, ↓r_at2, ↓r_at3, ↓r_neg, ↓r_negC, ↓r_b, ↓r_bl, ↓r_and, ↓r_or, ↓r_not, ↓r_andV, ↓r_orV, ↓r_notV, ↓r_bl', ↓r_if, ↓r_ifS, ↓r_asg, ↓r_name, ↓r_jnil, ↓r_jcons, ↓r_jtup, ↓r_jlst, ↓r_jlstP, ↓r_jsub, ↓r_jcut, ↓r_jcutP, ↓r_jcutA, ↓r_in2, ↓r_stP, ↓r_st0, ↓r_st1, ↓r_st2, ↓r_par, ↓r_ret, ↓r_retN, ↓r_drop, ↓r_brk, ↓r_cont, ↓r_raise, ↓r_nil, ↓r_cons, ↓r_tup, ↓r_lst, ↓r_new, ↓r_frz, ↓r_frzP, ↓r_cb, ↓r_call, ↓r_abs, ↓r_max, ↓r_min, ↓r_intI, ↓r_intB, ↓r_lenT, ↓r_lenL, ↓r_lenR, ↓r_lenP, ↓r_listL, ↓r_listR, ↓r_listOL, ↓r_tupleL, ↓r_tupleP, ↓r_isiII, ↓r_isiIB, ↓r_isiBI, ↓r_isiBB, ↓r_isiTT, ↓r_isiLL, ↓r_app, ↓r_appP, ↓r_clr, ↓r_clrP, ↓r_lstP, ↓r_cut, ↓r_onone, ↓r_osome, ↓r_int', ↓r_cutT, ↓r_cutLs, ↓r_cutP, ↓r_range1, ↓r_rg1, ↓rs0, ↓rsS, ↓ite_dec, ↓ite_ndec, ↓put_put, startD, List.length_cons, List.length_nil, and_assoc, and_true, true_and, and_self, or_self, or_false, false_or, or_true, true_or, decide_eq_true_eq, decide_true, decide_false, Bool.not_true, Bool.not_false, Bool.false_eq_true, if_true, if_false, ↓reduceIte, ne_eq, Nat.reduceLeDiff, Nat.reduceAdd, not_false_eq_true, not_true_eq_false, reduceCtorEq, Option.some.injEq, Int.reduceToNat, Int.reducePow, Int.reduceAdd, Int.reduceMul, Int.reduceSub, Int.reduceNeg, Int.reduceEq, List.nil_append, List.cons_append, ↓r_keep, ↓r_isExc, ↓r_indexM, ↓r_lstL, ↓r_eqF, ↓r_neF, ↓r_eqM, ↓r_neM, ↓r_isiFr, ↓r_eqB, ↓r_neB, beq_self_eq_true, ↓r_cutO, ↓r_cutOL, ↓r_cutOP])
    refine ⟨_, rfl, d0, bd.mono (by decide), fun v v0 v1 v2 => ?_⟩
    have e := isq_unique u0 v0 u1 u2 v1 v2
    subst e
    have ud := le_sq u0 u1
    have bu : Bd 200 u := (bd.mono (by decide)).le (by omega)
    have mu : MulC u u := mulC bu bu
    (try simp only [↓r_wm1, ↓r_wm2, ↓r_wm3, ↓r_wm4, ↓r_forT, ↓r_forI, ↓r_fU0, ↓r_fU1, ↓r_turn, ↓r_yes, ↓r_ofrz, ↓r_oown, ↓r_w0, ↓r_w1, ↓r_w2, ↓r_w3, ↓r_w4, ↓r_lcT, ↓r_lcI, ↓r_lcR, ↓r_cU0, ↓r_cU1, ↓r_s0, ↓r_n0, ↓r_s1, ↓r_n1, ↓r_s2, ↓r_n2, ↓r_s3, ↓r_n3, ↓r_s4, ↓r_n4, ↓r_s5, ↓r_n5, ↓r_s6, ↓r_n6, ↓r_s7, ↓r_n7, ↓r_s8, ↓r_n8, ↓r_s9, ↓r_n9, ↓r_s10, ↓r_n10, ↓r_s11, ↓r_n11, ↓r_s12, ↓r_n12, ↓r_s13, ↓r_n13, ↓r_s14, ↓r_n14, ↓r_s15, ↓r_n15, ↓r_s16, ↓r_n16, ↓r_s17, ↓r_n17, ↓r_s18, ↓r_n18, ↓r_s19, ↓r_n19, ↓r_s20, ↓r_n20, ↓r_s21, ↓r_n21, ↓r_s22, ↓r_n22, ↓r_s23, ↓r_n23, ↓r_s24, ↓r_n24, ↓r_s25, ↓r_n25, ↓r_fr0, ↓r_fr1, ↓r_frL, ↓r_frN, ↓r_frNN, ↓r_max3, ↓r_seq, ↓r_next, ↓r_var0, ↓r_varS, ↓r_c, ↓r_op, ↓r_addI, ↓r_addS, ↓r_addT, ↓r_addL, ↓r_sub, ↓r_mul, ↓r_div, ↓r_mod, ↓r_pow, ↓r_lt, ↓r_le, ↓r_gt, ↓r_ge, ↓r_eqI, ↓r_neI, ↓r_isN, ↓r_isT, ↓r_isI, ↓r_isR, ↓r_inN, ↓r_inT, ↓r_inI, ↓r_ixT, ↓r_ixLs, ↓r_ixRo, ↓r_ixP, ↓r_at0, ↓r_at1, ↓r_at2, ↓r_at3, ↓r_neg, ↓r_negC, ↓r_b, ↓r_bl, ↓r_and, ↓r_or, ↓r_not, ↓r_andV, ↓r_orV, ↓r_notV, ↓r_bl', ↓r_if, ↓r_ifS, ↓r_asg, ↓r_name, ↓r_jnil, ↓r_jcons, ↓r_jtup, ↓r_jlst, ↓r_jlstP, ↓r_jsub, ↓r_jcut, ↓r_jcutP, ↓r_jcutA, ↓r_in2, ↓r_stP, ↓r_st0, ↓r_st1, ↓r_st2, ↓r_par, ↓r_ret, ↓r_retN, ↓r_drop, ↓r_brk, ↓r_cont, ↓r_raise, ↓r_nil, ↓r_cons, ↓r_tup, ↓r_lst, ↓r_new, ↓r_frz, ↓r_frzP, ↓r_cb, ↓r_call, ↓r_abs, ↓r_max, ↓r_min, ↓r_intI, ↓r_intB, ↓r_lenT, ↓r_lenL, ↓r_lenR, ↓r_lenP, ↓r_listL, ↓r_listR, ↓r_listOL, ↓r_tupleL, ↓r_tupleP, ↓r_isiII, ↓r_isiIB, ↓r_isiBI, ↓r_isiBB, ↓r_isiTT, ↓r_isiLL, ↓r_app, ↓r_appP, ↓r_clr, ↓r_clrP, ↓r_lstP, ↓r_cut, ↓r_onone, ↓r_osome, ↓r_int', ↓r_cutT, ↓r_cutLs, ↓r_cutP, ↓r_range1, ↓r_rg1, ↓rs0, ↓rsS, ↓ite_dec, ↓ite_ndec, ↓put_put, startD, List.length_cons, List.length_nil, and_assoc, and_true, true_and, and_self, or_self, or_false, false_or, or_true, true_or, decide_eq_true_eq, decide_true, decide_false, Bool.not_true, Bool.not_false, Bool.false_eq_true, if_true, if_false, ↓reduceIte, ne_eq, Nat.reduceLeDiff, Nat.reduceAdd, not_false_eq_true, not_true_eq_false, reduceCtorEq, Option.some.injEq, Int.reduceToNat, Int.reducePow, Int.reduceAdd, Int.reduceMul, Int.reduceSub, Int.reduceNeg, Int.reduceEq, List.nil_append, List.cons_append, ↓r_keep, ↓r_isExc, ↓r_indexM, ↓r_lstL, ↓r_eqF, ↓r_neF, ↓r_eqM, ↓r_neM, ↓r_isiFr, ↓r_eqB, ↓r_neB, beq_self_eq_true, ↓r_cutO, ↓r_cutOL, ↓r_cutOP, mu])
    split
    · refine ⟨y, x, rfl, by omega, ba.mono (by decide), ?_⟩
      (try simp only [↓r_wm1, ↓r_wm2, ↓r_wm3, ↓r_wm4, ↓r_forT, ↓r_forI, ↓r_fU0, ↓r_fU1, ↓r_turn, ↓r_yes, ↓r_ofrz, ↓r_oown, ↓r_w0, ↓r_w1, ↓r_w2, ↓r_w3, ↓r_w4, ↓r_lcT, ↓r_lcI, ↓r_lcR, ↓r_cU0, ↓r_cU1, ↓r_s0, ↓r_n0, ↓r_s1, ↓r_n1, ↓r_s2, ↓r_n2, ↓r_s3, ↓r_n3, ↓r_s4, ↓r_n4, ↓r_s5, ↓r_n5, ↓r_s6, ↓r_n6, ↓r_s7, ↓r_n7, ↓r_s8, ↓r_n8, ↓r_s9, ↓r_n9, ↓r_s10, ↓r_n10, ↓r_s11, ↓r_n11, ↓r_s12, ↓r_n12, ↓r_s13, ↓r_n13, ↓r_s14, ↓r_n14, ↓r_s15, ↓r_n15, ↓r_s16, ↓r_n16, ↓r_s17, ↓r_n17, ↓r_s18, ↓r_n18, ↓r_s19, ↓r_n19, ↓r_s20, ↓r_n20, ↓r_s21, ↓r_n21, ↓r_s22, ↓r_n22, ↓r_s23, ↓r_n23, ↓r_s24, ↓r_n24, ↓r_s25, ↓r_n25, ↓r_fr0, ↓r_fr1, ↓r_frL, ↓r_frN, ↓r_frNN, ↓r_max3, ↓r_seq, ↓r_next, ↓r_var0, ↓r_varS, ↓r_c, ↓r_op, ↓r_addI, ↓r_addS, ↓r_addT, ↓r_addL, ↓r_sub, ↓r_mul, ↓r_div, ↓r_mod, ↓r_pow, ↓r_lt, ↓r_le, ↓r_gt, ↓r_ge, ↓r_eqI, ↓r_neI, ↓r_isN, ↓r_isT, ↓r_isI, ↓r_isR, ↓r_inN, ↓r_inT, ↓r_inI, ↓r_ixT, ↓r_ixLs, ↓r_ixRo, ↓r_ixP, ↓r_at0, ↓r_at1, ↓r_at2, ↓r_at3, ↓r_neg, ↓r_negC, ↓r_b, ↓r_bl, ↓r_and, ↓r_or, ↓r_not, ↓r_andV, ↓r_orV, ↓r_notV, ↓r_bl', ↓r_if, ↓r_ifS, ↓r_asg, ↓r_name, ↓r_jnil, ↓r_jcons, ↓r_jtup, ↓r_jlst, ↓r_jlstP, ↓r_jsub, ↓r_jcut, ↓r_jcutP, ↓r_jcutA, ↓r_in2, ↓r_stP, ↓r_st0, ↓r_st1, ↓r_st2, ↓r_par, ↓r_ret, ↓r_retN, ↓r_drop, ↓r_brk, ↓r_cont, ↓r_raise, ↓r_nil, ↓r_cons, ↓r_tup, ↓r_lst, ↓r_new, ↓r_frz, ↓r_frzP, ↓r_cb, ↓r_call, ↓r_abs, ↓r_max, ↓r_min, ↓r_intI, ↓r_intB, ↓r_lenT, ↓r_lenL, ↓r_lenR, ↓r_lenP, ↓r_listL, ↓r_listR, ↓r_listOL, ↓r_tupleL, ↓r_tupleP, ↓r_isiII, ↓r_isiIB, ↓r_isiBI, ↓r_isiBB, ↓r_isiTT, ↓r_isiLL, ↓r_app, ↓r_appP, ↓r_clr, ↓r_clrP, ↓r_lstP, ↓r_cut, ↓r_onone, ↓r_osome, ↓r_int', ↓r_cutT, ↓r_cutLs, ↓r_cutP, ↓r_range1, ↓r_rg1, ↓rs0, ↓rsS, ↓ite_dec, ↓ite_ndec, ↓put_put, startD, List.length_cons, List.length_nil, and_assoc, and_true, true_and, and_self, or_self, or_false, false_or, or_true, true_or, decide_eq_true_eq, decide_true, decide_false, Bool.not_true, Bool.not_false, Bool.false_eq_true, if_true, if_false, ↓reduceIte, ne_eq, Nat.reduceLeDiff, Nat.reduceAdd, not_false_eq_true, not_true_eq_false, reduceCtorEq, Option.some.injEq, Int.reduceToNat, Int.reducePow, Int.reduceAdd, Int.reduceMul, Int.reduceSub, Int.reduceNeg, Int.reduceEq, List.nil_append, List.cons_append, ↓r_keep, ↓r_isExc, ↓r_indexM, ↓r_lstL, ↓r_eqF, ↓r_neF, ↓r_eqM, ↓r_neM, ↓r_isiFr, ↓r_eqB, ↓r_neB, beq_self_eq_true, ↓r_cutO, ↓r_cutOL, ↓r_cutOP])
      exact lw
    · rename_i hq
      refine ⟨p, 2, _, rfl, h5, by omega, by decide, by decide, fun s d6 s0 s1 h6 => ?_⟩
      (try simp only [↓r_wm1, ↓r_wm2, ↓r_wm3, ↓r_wm4, ↓r_forT, ↓r_forI, ↓r_fU0, ↓r_fU1, ↓r_turn, ↓r_yes, ↓r_ofrz, ↓r_oown, ↓r_w0, ↓r_w1, ↓r_w2, ↓r_w3, ↓r_w4, ↓r_lcT, ↓r_lcI, ↓r_lcR, ↓r_cU0, ↓r_cU1, ↓r_s0, ↓r_n0, ↓r_s1, ↓r_n1, ↓r_s2, ↓r_n2, ↓r_s3, ↓r_n3, ↓r_s4, ↓r_n4, ↓r_s5, ↓r_n5, ↓r_s6, ↓r_n6, ↓r_s7, ↓r_n7, ↓r_s8, ↓r_n8, ↓r_s9, ↓r_n9, ↓r_s10, ↓r_n10, ↓r_s11, ↓r_n11, ↓r_s12, ↓r_n12, ↓r_s13, ↓r_n13, ↓r_s14, ↓r_n14, ↓r_s15, ↓r_n15, ↓r_s16, ↓r_n16, ↓r_s17, ↓r_n17, ↓r_s18, ↓r_n18, ↓r_s19, ↓r_n19, ↓r_s20, ↓r_n20, ↓r_s21, ↓r_n21, ↓r_s22, ↓r_n22, ↓r_s23, ↓r_n23, ↓r_s24, ↓r_n24, ↓r_s25, ↓r_n25, ↓r_fr0, ↓r_fr1, ↓r_frL, ↓r_frN, ↓r_frNN, ↓r_max3, ↓r_seq, ↓r_next, ↓r_var0, ↓r_varS, ↓r_c, ↓r_op, ↓r_addI, ↓r_addS, ↓r_addT, ↓r_addL, ↓r_sub, ↓r_mul, ↓r_div, ↓r_mod, ↓r_pow, ↓r_lt, ↓r_le, ↓r_gt, ↓r_ge, ↓r_eqI, ↓r_neI, ↓r_isN, ↓r_isT, ↓r_isI, ↓r_isR, ↓r_inN, ↓r_inT, ↓r_inI, ↓r_ixT, ↓r_ixLs, ↓r_ixRo, ↓r_ixP, ↓r_at0, ↓r_at1, ↓r_at2, ↓r_at3, ↓r_neg, ↓r_negC, ↓r_b, ↓r_bl, ↓r_and, ↓r_or, ↓r_not, ↓r_andV, ↓r_orV, ↓r_notV, ↓r_bl', ↓r_if, ↓r_ifS, ↓r_asg, ↓r_name, ↓r_jnil, ↓r_jcons, ↓r_jtup, ↓r_jlst, ↓r_jlstP, ↓r_jsub, ↓r_jcut, ↓r_jcutP, ↓r_jcutA, ↓r_in2, ↓r_stP, ↓r_st0, ↓r_st1, ↓r_st2, ↓r_par, ↓r_ret, ↓r_retN, ↓r_drop, ↓r_brk, ↓r_cont, ↓r_raise, ↓r_nil, ↓r_cons, ↓r_tup, ↓r_lst, ↓r_new, ↓r_frz, ↓r_frzP, ↓r_cb, ↓r_call, ↓r_abs, ↓r_max, ↓r_min, ↓r_intI, ↓r_intB, ↓r_lenT, ↓r_lenL, ↓r_lenR, ↓r_lenP, ↓r_listL, ↓r_listR, ↓r_listOL, ↓r_tupleL, ↓r_tupleP, ↓r_isiII, ↓r_isiIB, ↓r_isiBI, ↓r_isiBB, ↓r_isiTT, ↓r_isiLL, ↓r_app, ↓r_appP, ↓r_clr, ↓r_clrP, ↓r_lstP, ↓r_cut, ↓r_onone, ↓r_osome, ↓r_int', ↓r_cutT, ↓r_cutLs, ↓r_cutP, ↓r_range1, ↓r_rg1, ↓rs0, ↓rsS, ↓ite_dec, ↓ite_ndec, ↓put_put, startD, List.length_cons, List.length_nil, and_assoc, and_true, true_and, and_self, or_self, or_false, false_or, or_true, true_or, decide_eq_true_eq, decide_true, decide_false, Bool.not_true, Bool.not_false, Bool.false_eq_true, if_true, if_false, ↓reduceIte, ne_eq, Nat.reduceLeDiff, Nat.reduceAdd, not_false_eq_true, not_true_eq_false, reduceCtorEq, Option.some.injEq, Int.reduceToNat, Int.reducePow, Int.reduceAdd, Int.reduceMul, Int.reduceSub, Int.reduceNeg, Int.reduceEq, List.nil_append, List.cons_append, ↓r_keep, ↓r_isExc, ↓r_indexM, ↓r_lstL, ↓r_eqF, ↓r_neF, ↓r_eqM, ↓r_neM, ↓r_isiFr, ↓r_eqB, ↓r_neB, beq_self_eq_true, ↓r_cutO, ↓r_cutOL, ↓r_cutOP])
      obtain ⟨k1, k2⟩ := prim_ok (s := s) a0 (ba.mono (n := 70) (by decide)) (bb.mono (n := 70) (by decide)) (bc.mono (n := 70) (by decide)) (by omega) (by omega) (nonsq u0 u1 u2 hq)
      refine ⟨x, y, z, s, 70, rfl, a0, ba.mono (by decide), bb.mono (by decide), bc.mono (by decide), by decide, by omega, by omega, nonsq u0 u1 u2 hq, ?_⟩
      (try simp only [↓r_wm1, ↓r_wm2, ↓r_wm3, ↓r_wm4, ↓r_forT, ↓r_forI, ↓r_fU0, ↓r_fU1, ↓r_turn, ↓r_yes, ↓r_ofrz, ↓r_oown, ↓r_w0, ↓r_w1, ↓r_w2, ↓r_w3, ↓r_w4, ↓r_lcT, ↓r_lcI, ↓r_lcR, ↓r_cU0, ↓r_cU1, ↓r_s0, ↓r_n0, ↓r_s1, ↓r_n1, ↓r_s2, ↓r_n2, ↓r_s3, ↓r_n3, ↓r_s4, ↓r_n4, ↓r_s5, ↓r_n5, ↓r_s6, ↓r_n6, ↓r_s7, ↓r_n7, ↓r_s8, ↓r_n8, ↓r_s9, ↓r_n9, ↓r_s10, ↓r_n10, ↓r_s11, ↓r_n11, ↓r_s12, ↓r_n12, ↓r_s13, ↓r_n13, ↓r_s14, ↓r_n14, ↓r_s15, ↓r_n15, ↓r_s16, ↓r_n16, ↓r_s17, ↓r_n17, ↓r_s18, ↓r_n18, ↓r_s19, ↓r_n19, ↓r_s20, ↓r_n20, ↓r_s21, ↓r_n21, ↓r_s22, ↓r_n22, ↓r_s23, ↓r_n23, ↓r_s24, ↓r_n24, ↓r_s25, ↓r_n25, ↓r_fr0, ↓r_fr1, ↓r_frL, ↓r_frN, ↓r_frNN, ↓r_max3, ↓r_seq, ↓r_next, ↓r_var0, ↓r_varS, ↓r_c, ↓r_op, ↓r_addI, ↓r_addS, ↓r_addT, ↓r_addL, ↓r_sub, ↓r_mul, ↓r_div, ↓r_mod, ↓r_pow, ↓r_lt, ↓r_le, ↓r_gt, ↓r_ge, ↓r_eqI, ↓r_neI, ↓r_isN, ↓r_isT, ↓r_isI, ↓r_isR, ↓r_inN, ↓r_inT, ↓r_inI, ↓r_ixT, ↓r_ixLs, ↓r_ixRo, ↓r_ixP, ↓r_at0, ↓r_at1, ↓r_at2, ↓r_at3, ↓r_neg, ↓r_negC, ↓r_b, ↓r_bl, ↓r_and, ↓r_or, ↓r_not, ↓r_andV, ↓r_orV, ↓r_notV, ↓r_bl', ↓r_if, ↓r_ifS, ↓r_asg, ↓r_name, ↓r_jnil, ↓r_jcons, ↓r_jtup, ↓r_jlst, ↓r_jlstP, ↓r_jsub, ↓r_jcut, ↓r_jcutP, ↓r_jcutA, ↓r_in2, ↓r_stP, ↓r_st0, ↓r_st1, ↓r_st2, ↓r_par, ↓r_ret, ↓r_retN, ↓r_drop, ↓r_brk, ↓r_cont, ↓r_raise, ↓r_nil, ↓r_cons, ↓r_tup, ↓r_lst, ↓r_new, ↓r_frz, ↓r_frzP, ↓r_cb, ↓r_call, ↓r_abs, ↓r_max, ↓r_min, ↓r_intI, ↓r_intB, ↓r_lenT, ↓r_lenL, ↓r_lenR, ↓r_lenP, ↓r_listL, ↓r_listR, ↓r_listOL, ↓r_tupleL, ↓r_tupleP, ↓r_isiII, ↓r_isiIB, ↓r_isiBI, ↓r_isiBB, ↓r_isiTT, ↓r_isiLL, ↓r_app, ↓r_appP, ↓r_clr, ↓r_clrP, ↓r_lstP, ↓r_cut, ↓r_onone, ↓r_osome, ↓r_int', ↓r_cutT, ↓r_cutLs, ↓r_cutP, ↓r_range1, ↓r_rg1, ↓rs0, ↓rsS, ↓ite_dec, ↓ite_ndec, ↓put_put, startD, List.length_cons, List.length_nil, and_assoc, and_true, true_and, and_self, or_self, or_false, false_or, or_true, true_or, decide_eq_true_eq, decide_true, decide_false, Bool.not_true, Bool.not_false, Bool.false_eq_true, if_true, if_false, ↓reduceIte, ne_eq, Nat.reduceLeDiff, Nat.reduceAdd, not_false_eq_true, not_true_eq_false, reduceCtorEq, Option.some.injEq, Int.reduceToNat, Int.reducePow, Int.reduceAdd, Int.reduceMul, Int.reduceSub, Int.reduceNeg, Int.reduceEq, List.nil_append, List.cons_append, ↓r_keep, ↓r_isExc, ↓r_indexM, ↓r_lstL, ↓r_eqF, ↓r_neF, ↓r_eqM, ↓r_neM, ↓r_isiFr, ↓r_eqB, ↓r_neB, beq_self_eq_true, ↓r_cutO, ↓r_cutOL, ↓r_cutOP])
      exact h _ d6 k1 k2 (h6.put.mono (by omega))
def pr__law_moved : DSp := fun ds μ P _ => ∃ (m : Mom) (q : Int × Int) (n : Nat), ds = [m.d, fr q] ∧ m.Ok n ∧ Fr q ∧ FB n q ∧ n ≤ 90 ∧ P (movM m q).d μ
theorem len__law_moved : ∀ ds μ P PX, pr__law_moved ds μ P PX → ds.length = (["_law_moment_here", "_law_by_here"] : List Str).length := by
  rintro ds μ P PX ⟨m, q, n, rfl, _⟩
  rfl
theorem ok__law_moved {P : Program} {w : World} {K : PySem.W.Frag} {mg : Str → Option Value} {base : Heap} {f : Addr} {fd : FuncData} (F : Fun K "_law_moved" "_law_moved" s__law_moved f fd)
    (d__law_plus : Df P w K mg base "_law_plus" ["_law_one", "_law_other"] 2 pr__law_plus)
    (d__law_less : Df P w K mg base "_law_less" ["_law_one", "_law_other"] 2 pr__law_less)
    (d__law_by : Df P w K mg base "_law_by" ["_law_one", "_law_other"] 2 pr__law_by)
    (d__law_of_curve : Df P w K mg base "_law_of_curve" ["_law_curve", "_law_side"] 3 pr__law_of_curve)
    (m_len : mg "len" = none) : FnOk P w K mg base (L2.CX P w) 4 f fd ["_law_moment_here", "_law_by_here"] (spD K pr__law_moved) := by
  have nd := sc__law_moved.nd
  refine fn_D (k := 3) F sc__law_moved len__law_moved (by decide) (fun cdv A outer s H E PX hr tk hp => ⟨_, (sd_cons (sd_if (pt_eq hr.units (pd_len (by rfl) m_len (da_cons (vr 0) da_nil)) pd_int)
       (sd_one (sd_ret (pd_call d__law_plus tk hr (by rfl) (da_cons (vr 0) (da_cons (vr 1) da_nil)))))
       sd_nil)
      (sd_cons (sd_asg (pd_lcT rfl nd out_frz (pd_cut (vr 0) do_none (do_some pd_int)) (own := [("_law_number_here", 5)]) ⟨blkOk_by (own := [("_law_number_here", 5)]) (N := ["_law_moment_here", "_law_by_here", "_law_a", "_law_b", "_law_c", "_law_number_here", "_law_steep", "_law_rest"]) (sc := defScope s__law_moved) (by decide +kernel), fun _ _ _ _ _ => (pg_name (i := 5) nd rfl (by first | exact Or.inl rfl | exact Or.inr rfl)), (hv_name 5 (by decide)), fun _ _ _ _ _ => dts_nil, fun _ _ _ _ _ => (pd_tup (da_cons (vr 5) (da_cons pd_int da_nil)))⟩) (gd_lst (n := 3) rfl (gd_cons (gd_name 2 nd) (gd_cons (gd_name 3 nd) (gd_cons (gd_name 4 nd) gd_nil)))))
      (sd_cons (sd_set 6 nd (pd_call d__law_less tk hr (by rfl) (da_cons (vr 3) (da_cons (pd_call d__law_by tk hr (by rfl) (da_cons (pd_tup (da_cons pd_int (da_cons pd_int da_nil))) (da_cons (pd_call d__law_by tk hr (by rfl) (da_cons (vr 2) (da_cons (vr 1) da_nil))) da_nil))) da_nil))))
      (sd_cons (sd_set 7 nd (pd_call d__law_plus tk hr (by rfl) (da_cons (pd_call d__law_less tk hr (by rfl) (da_cons (pd_call d__law_by tk hr (by rfl) (da_cons (vr 2) (da_cons (pd_call d__law_by tk hr (by rfl) (da_cons (vr 1) (da_cons (vr 1) da_nil))) da_nil))) (da_cons (pd_call d__law_by tk hr (by rfl) (da_cons (vr 3) (da_cons (vr 1) da_nil))) da_nil))) (da_cons (vr 4) da_nil))))
      (sd_one (sd_ret (pd_call d__law_of_curve tk hr (by rfl) (da_cons (pd_tup (da_cons (vr 2) (da_cons (vr 6) (da_cons (vr 7) da_nil)))) (da_cons (pd_ix (vr 0) pd_int) da_nil)))))))))⟩) ?_
  rintro ds μ P PX ⟨m, q, n, rfl, hm, hq, bq, hn, h⟩
  cases m with
  | q x =>
    simp only [Mom.d]
    (try simp only [↓r_wm1, ↓r_wm2, ↓r_wm3, ↓r_wm4, ↓r_forT, ↓r_forI, ↓r_fU0, ↓r_fU1, ↓r_turn, ↓r_yes, ↓r_ofrz, ↓r_oown, ↓r_w0, ↓r_w1, ↓r_w2, ↓r_w3, ↓r_w4, ↓r_lcT, ↓r_lcI, ↓r_lcR, ↓r_cU0, ↓r_cU1, ↓r_s0, ↓r_n0, ↓r_s1, ↓r_n1, ↓r_s2, ↓r_n2, ↓r_s3, ↓r_n3, ↓r_s4, ↓r_n4, ↓r_s5, ↓r_n5, ↓r_s6, ↓r_n6, ↓r_s7, ↓r_n7, ↓r_s8, ↓r_n8, ↓r_s9, ↓r_n9, ↓r_s10, ↓r_n10, ↓r_s11, ↓r_n11, ↓r_s12, ↓r_n12, ↓r_s13, ↓r_n13, ↓r_s14, ↓r_n14, ↓r_s15, ↓r_n15, ↓r_s16, ↓r_n16, ↓r_s17, ↓r_n17, ↓r_s18, ↓r_n18, ↓r_s19, ↓r_n19, ↓r_s20, ↓r_n20, ↓r_s21, ↓r_n21, ↓r_s22, ↓r_n22, ↓r_s23, ↓r_n23, ↓r_s24, ↓r_n24, ↓r_s25, ↓r_n25, ↓r_fr0, ↓r_fr1, ↓r_frL, ↓r_frN, ↓r_frNN, ↓r_max3, ↓r_seq, ↓r_next, ↓r_var0, ↓r_varS, ↓r_c, ↓r_op, ↓r_addI, ↓r_addS, ↓r_addT, ↓r_addL, ↓r_sub, ↓r_mul, ↓r_div, ↓r_mod, ↓r_pow, ↓r_lt, ↓r_le, ↓r_gt, ↓r_ge, ↓r_eqI, ↓r_neI, ↓r_isN, ↓r_isT, ↓r_isI, ↓r_isR, ↓r_inN, ↓r_inT, ↓r_inI, ↓r_ixT, ↓r_ixLs, ↓r_ixRo, ↓r_ixP, ↓r_at0, ↓r_at1, ↓r_at2, ↓r_at3, ↓r_neg, ↓r_negC, ↓r_b, ↓r_bl, ↓r_and, ↓r_or, ↓r_not, ↓r_andV, ↓r_orV, ↓r_notV, ↓r_bl', ↓r_if, ↓r_ifS, ↓r_asg, ↓r_name, ↓r_jnil, ↓r_jcons, ↓r_jtup, ↓r_jlst, ↓r_jlstP, ↓r_jsub, ↓r_jcut, ↓r_jcutP, ↓r_jcutA, ↓r_in2, ↓r_stP, ↓r_st0, ↓r_st1, ↓r_st2, ↓r_par, ↓r_ret, ↓r_retN, ↓r_drop, ↓r_brk, ↓r_cont, ↓r_raise, ↓r_nil, ↓r_cons, ↓r_tup, ↓r_lst, ↓r_new, ↓r_frz, ↓r_frzP, ↓r_cb, ↓r_call, ↓r_abs, ↓r_max, ↓r_min, ↓r_intI, ↓r_intB, ↓r_lenT, ↓r_lenL, ↓r_lenR, ↓r_lenP, ↓r_listL, ↓r_listR, ↓r_listOL, ↓r_tupleL, ↓r_tupleP, ↓r_isiII, ↓r_isiIB, ↓r_isiBI, ↓r_isiBB, ↓r_isiTT, ↓r_isiLL, ↓r_app, ↓r_appP, ↓r_clr, ↓r_clrP, ↓r_lstP, ↓r_cut, ↓r_onone, ↓r_osome, ↓r_int', ↓r_cutT, ↓r_cutLs, ↓r_cutP, ↓r_range1, ↓r_rg1, ↓rs0, ↓rsS, ↓ite_dec, ↓ite_ndec, ↓put_put, startD, List.length_cons, List.length_nil, and_assoc, and_true, true_and, and_self, or_self, or_false, false_or, or_true, true_or, decide_eq_true_eq, decide_true, decide_false, Bool.not_true, Bool.not_false, Bool.false_eq_true, if_true, if_false, ↓reduceIte, ne_eq, Nat.reduceLeDiff, Nat.reduceAdd, not_false_eq_true, not_true_eq_false, reduceCtorEq, Option.some.injEq, Int.reduceToNat, Int.reducePow, Int.reduceAdd, Int.reduceMul, Int.reduceSub, Int.reduceNeg, Int.reduceEq, List.nil_append, List.cons_append, ↓r_keep, ↓r_isExc, ↓r_indexM, ↓r_lstL, ↓r_eqF, ↓r_neF, ↓r_eqM, ↓r_neM, ↓r_isiFr, ↓r_eqB, ↓r_neB, beq_self_eq_true, ↓r_cutO, ↓r_cutOL, ↓r_cutOP])
    exact ⟨x, q, n, rfl, hm.1, hq, hm.2, bq, by omega, h⟩
  | r a b c s =>
    obtain ⟨ha, ba, bb, bc, hs⟩ := hm
    have fa := fr_int a
    have fb := fr_int b
    have fc := fr_int c
    have f2 := fr_int 2
    unfold ofInt at fa fb fc f2
    have o1 := one_bd ha ba
    have o2 : FB (n + 2) (2, 1) := ⟨(show Bd 2 2 by decide).mono (by omega), o1.mono (by omega)⟩
    have za : FB n (a, 1) := ⟨ba, o1⟩
    have zb : FB n (b, 1) := ⟨bb, o1⟩
    have zc : FB n (c, 1) := ⟨bc, o1⟩
    have c1 := fmul_can fa hq
    have b1 := fmul_bd fa hq za bq
    have c2 := fmul_can f2 c1
    have b2 := fmul_bd f2 c1 o2 b1
    have c3 := fmul_can hq hq
    have b3 := fmul_bd hq hq bq bq
    have c4 := fmul_can fa c3
    have b4 := fmul_bd fa c3 za b3
    have c5 := fmul_can fb hq
    have b5 := fmul_bd fb hq zb bq
    have c6 := fsub_can c4 c5
    have b6 := fsub_bd c4 c5 b4 b5
    have c7 := fadd_can c6 fc
    have ok := mov_ok hq ba bb bc bq
    obtain ⟨p1, p2, _, _, _, v2⟩ := mov_parts hq ba bb bc bq
    have e : fadd (fsub (fmul (a, 1) (fmul q q)) (fmul (b, 1) q)) (c, 1) = (movC a b c q).c := by
      refine rv_inj c7 p2 ?_
      rw [rv_add c6 fc, rv_sub c4 c5, rv_mul fa c3, rv_mul hq hq, rv_mul fb hq, v2, rv_int, rv_int, rv_int]
      grind
    have e3 : cutL [D.int a, .int b, .int c, .int s] none (some 3) = [.int a, .int b, .int c] := rfl
    simp only [Mom.d]
    (try simp only [↓r_wm1, ↓r_wm2, ↓r_wm3, ↓r_wm4, ↓r_forT, ↓r_forI, ↓r_fU0, ↓r_fU1, ↓r_turn, ↓r_yes, ↓r_ofrz, ↓r_oown, ↓r_w0, ↓r_w1, ↓r_w2, ↓r_w3, ↓r_w4, ↓r_lcT, ↓r_lcI, ↓r_lcR, ↓r_cU0, ↓r_cU1, ↓r_s0, ↓r_n0, ↓r_s1, ↓r_n1, ↓r_s2, ↓r_n2, ↓r_s3, ↓r_n3, ↓r_s4, ↓r_n4, ↓r_s5, ↓r_n5, ↓r_s6, ↓r_n6, ↓r_s7, ↓r_n7, ↓r_s8, ↓r_n8, ↓r_s9, ↓r_n9, ↓r_s10, ↓r_n10, ↓r_s11, ↓r_n11, ↓r_s12, ↓r_n12, ↓r_s13, ↓r_n13, ↓r_s14, ↓r_n14, ↓r_s15, ↓r_n15, ↓r_s16, ↓r_n16, ↓r_s17, ↓r_n17, ↓r_s18, ↓r_n18, ↓r_s19, ↓r_n19, ↓r_s20, ↓r_n20, ↓r_s21, ↓r_n21, ↓r_s22, ↓r_n22, ↓r_s23, ↓r_n23, ↓r_s24, ↓r_n24, ↓r_s25, ↓r_n25, ↓r_fr0, ↓r_fr1, ↓r_frL, ↓r_frN, ↓r_frNN, ↓r_max3, ↓r_seq, ↓r_next, ↓r_var0, ↓r_varS, ↓r_c, ↓r_op, ↓r_addI, ↓r_addS, ↓r_addT, ↓r_addL, ↓r_sub, ↓r_mul, ↓r_div, ↓r_mod, ↓r_pow, ↓r_lt, ↓r_le, ↓r_gt, ↓r_ge, ↓r_eqI, ↓r_neI, ↓r_isN, ↓r_isT, ↓r_isI, ↓r_isR, ↓r_inN, ↓r_inT, ↓r_inI, ↓r_ixT, ↓r_ixLs, ↓r_ixRo, ↓r_ixP, ↓r_at0, ↓r_at1, ↓r_at2, ↓r_at3, ↓r_neg, ↓r_negC, ↓r_b, ↓r_bl, ↓r_and, ↓r_or, ↓r_not, ↓r_andV, ↓r_orV, ↓r_notV, ↓r_bl', ↓r_if, ↓r_ifS, ↓r_asg, ↓r_name, ↓r_jnil, ↓r_jcons, ↓r_jtup, ↓r_jlst, ↓r_jlstP, ↓r_jsub, ↓r_jcut, ↓r_jcutP, ↓r_jcutA, ↓r_in2, ↓r_stP, ↓r_st0, ↓r_st1, ↓r_st2, ↓r_par, ↓r_ret, ↓r_retN, ↓r_drop, ↓r_brk, ↓r_cont, ↓r_raise, ↓r_nil, ↓r_cons, ↓r_tup, ↓r_lst, ↓r_new, ↓r_frz, ↓r_frzP, ↓r_cb, ↓r_call, ↓r_abs, ↓r_max, ↓r_min, ↓r_intI, ↓r_intB, ↓r_lenT, ↓r_lenL, ↓r_lenR, ↓r_lenP, ↓r_listL, ↓r_listR, ↓r_listOL, ↓r_tupleL, ↓r_tupleP, ↓r_isiII, ↓r_isiIB, ↓r_isiBI, ↓r_isiBB, ↓r_isiTT, ↓r_isiLL, ↓r_app, ↓r_appP, ↓r_clr, ↓r_clrP, ↓r_lstP, ↓r_cut, ↓r_onone, ↓r_osome, ↓r_int', ↓r_cutT, ↓r_cutLs, ↓r_cutP, ↓r_range1, ↓r_rg1, ↓rs0, ↓rsS, ↓ite_dec, ↓ite_ndec, ↓put_put, startD, List.length_cons, List.length_nil, and_assoc, and_true, true_and, and_self, or_self, or_false, false_or, or_true, true_or, decide_eq_true_eq, decide_true, decide_false, Bool.not_true, Bool.not_false, Bool.false_eq_true, if_true, if_false, ↓reduceIte, ne_eq, Nat.reduceLeDiff, Nat.reduceAdd, not_false_eq_true, not_true_eq_false, reduceCtorEq, Option.some.injEq, Int.reduceToNat, Int.reducePow, Int.reduceAdd, Int.reduceMul, Int.reduceSub, Int.reduceNeg, Int.reduceEq, List.nil_append, List.cons_append, ↓r_keep, ↓r_isExc, ↓r_indexM, ↓r_lstL, ↓r_eqF, ↓r_neF, ↓r_eqM, ↓r_neM, ↓r_isiFr, ↓r_eqB, ↓r_neB, beq_self_eq_true, ↓r_cutO, ↓r_cutOL, ↓r_cutOP])
    refine ⟨by decide, ?_⟩
    rw [e3]
    refine lcT_u (by simp) ?_
    (try simp only [↓r_wm1, ↓r_wm2, ↓r_wm3, ↓r_wm4, ↓r_forT, ↓r_forI, ↓r_fU0, ↓r_fU1, ↓r_turn, ↓r_yes, ↓r_ofrz, ↓r_oown, ↓r_w0, ↓r_w1, ↓r_w2, ↓r_w3, ↓r_w4, ↓r_lcT, ↓r_lcI, ↓r_lcR, ↓r_cU0, ↓r_cU1, ↓r_s0, ↓r_n0, ↓r_s1, ↓r_n1, ↓r_s2, ↓r_n2, ↓r_s3, ↓r_n3, ↓r_s4, ↓r_n4, ↓r_s5, ↓r_n5, ↓r_s6, ↓r_n6, ↓r_s7, ↓r_n7, ↓r_s8, ↓r_n8, ↓r_s9, ↓r_n9, ↓r_s10, ↓r_n10, ↓r_s11, ↓r_n11, ↓r_s12, ↓r_n12, ↓r_s13, ↓r_n13, ↓r_s14, ↓r_n14, ↓r_s15, ↓r_n15, ↓r_s16, ↓r_n16, ↓r_s17, ↓r_n17, ↓r_s18, ↓r_n18, ↓r_s19, ↓r_n19, ↓r_s20, ↓r_n20, ↓r_s21, ↓r_n21, ↓r_s22, ↓r_n22, ↓r_s23, ↓r_n23, ↓r_s24, ↓r_n24, ↓r_s25, ↓r_n25, ↓r_fr0, ↓r_fr1, ↓r_frL, ↓r_frN, ↓r_frNN, ↓r_max3, ↓r_seq, ↓r_next, ↓r_var0, ↓r_varS, ↓r_c, ↓r_op, ↓r_addI, ↓r_addS, ↓r_addT, ↓r_addL, ↓r_sub, ↓r_mul, ↓r_div, ↓r_mod, ↓r_pow, ↓r_lt, ↓r_le, ↓r_gt, ↓r_ge, ↓r_eqI, ↓r_neI, ↓r_isN, ↓r_isT, ↓r_isI, ↓r_isR, ↓r_inN, ↓r_inT, ↓r_inI, ↓r_ixT, ↓r_ixLs, ↓r_ixRo, ↓r_ixP, ↓r_at0, ↓r_at1, ↓r_at2, ↓r_at3, ↓r_neg, ↓r_negC, ↓r_b, ↓r_bl, ↓r_and, ↓r_or, ↓r_not, ↓r_andV, ↓r_orV, ↓r_notV, ↓r_bl', ↓r_if, ↓r_ifS, ↓r_asg, ↓r_name, ↓r_jnil, ↓r_jcons, ↓r_jtup, ↓r_jlst, ↓r_jlstP, ↓r_jsub, ↓r_jcut, ↓r_jcutP, ↓r_jcutA, ↓r_in2, ↓r_stP, ↓r_st0, ↓r_st1, ↓r_st2, ↓r_par, ↓r_ret, ↓r_retN, ↓r_drop, ↓r_brk, ↓r_cont, ↓r_raise, ↓r_nil, ↓r_cons, ↓r_tup, ↓r_lst, ↓r_new, ↓r_frz, ↓r_frzP, ↓r_cb, ↓r_call, ↓r_abs, ↓r_max, ↓r_min, ↓r_intI, ↓r_intB, ↓r_lenT, ↓r_lenL, ↓r_lenR, ↓r_lenP, ↓r_listL, ↓r_listR, ↓r_listOL, ↓r_tupleL, ↓r_tupleP, ↓r_isiII, ↓r_isiIB, ↓r_isiBI, ↓r_isiBB, ↓r_isiTT, ↓r_isiLL, ↓r_app, ↓r_appP, ↓r_clr, ↓r_clrP, ↓r_lstP, ↓r_cut, ↓r_onone, ↓r_osome, ↓r_int', ↓r_cutT, ↓r_cutLs, ↓r_cutP, ↓r_range1, ↓r_rg1, ↓rs0, ↓rsS, ↓ite_dec, ↓ite_ndec, ↓put_put, startD, List.length_cons, List.length_nil, and_assoc, and_true, true_and, and_self, or_self, or_false, false_or, or_true, true_or, decide_eq_true_eq, decide_true, decide_false, Bool.not_true, Bool.not_false, Bool.false_eq_true, if_true, if_false, ↓reduceIte, ne_eq, Nat.reduceLeDiff, Nat.reduceAdd, not_false_eq_true, not_true_eq_false, reduceCtorEq, Option.some.injEq, Int.reduceToNat, Int.reducePow, Int.reduceAdd, Int.reduceMul, Int.reduceSub, Int.reduceNeg, Int.reduceEq, List.nil_append, List.cons_append, ↓r_keep, ↓r_isExc, ↓r_indexM, ↓r_lstL, ↓r_eqF, ↓r_neF, ↓r_eqM, ↓r_neM, ↓r_isiFr, ↓r_eqB, ↓r_neB, beq_self_eq_true, ↓r_cutO, ↓r_cutOL, ↓r_cutOP])
    refine ⟨(a, 1), q, n, rfl, fa, hq, za, bq, by omega, ?_⟩
    (try simp only [↓r_wm1, ↓r_wm2, ↓r_wm3, ↓r_wm4, ↓r_forT, ↓r_forI, ↓r_fU0, ↓r_fU1, ↓r_turn, ↓r_yes, ↓r_ofrz, ↓r_oown, ↓r_w0, ↓r_w1, ↓r_w2, ↓r_w3, ↓r_w4, ↓r_lcT, ↓r_lcI, ↓r_lcR, ↓r_cU0, ↓r_cU1, ↓r_s0, ↓r_n0, ↓r_s1, ↓r_n1, ↓r_s2, ↓r_n2, ↓r_s3, ↓r_n3, ↓r_s4, ↓r_n4, ↓r_s5, ↓r_n5, ↓r_s6, ↓r_n6, ↓r_s7, ↓r_n7, ↓r_s8, ↓r_n8, ↓r_s9, ↓r_n9, ↓r_s10, ↓r_n10, ↓r_s11, ↓r_n11, ↓r_s12, ↓r_n12, ↓r_s13, ↓r_n13, ↓r_s14, ↓r_n14, ↓r_s15, ↓r_n15, ↓r_s16, ↓r_n16, ↓r_s17, ↓r_n17, ↓r_s18, ↓r_n18, ↓r_s19, ↓r_n19, ↓r_s20, ↓r_n20, ↓r_s21, ↓r_n21, ↓r_s22, ↓r_n22, ↓r_s23, ↓r_n23, ↓r_s24, ↓r_n24, ↓r_s25, ↓r_n25, ↓r_fr0, ↓r_fr1, ↓r_frL, ↓r_frN, ↓r_frNN, ↓r_max3, ↓r_seq, ↓r_next, ↓r_var0, ↓r_varS, ↓r_c, ↓r_op, ↓r_addI, ↓r_addS, ↓r_addT, ↓r_addL, ↓r_sub, ↓r_mul, ↓r_div, ↓r_mod, ↓r_pow, ↓r_lt, ↓r_le, ↓r_gt, ↓r_ge, ↓r_eqI, ↓r_neI, ↓r_isN, ↓r_isT, ↓r_isI, ↓r_isR, ↓r_inN, ↓r_inT, ↓r_inI, ↓r_ixT, ↓r_ixLs, ↓r_ixRo, ↓r_ixP, ↓r_at0, ↓r_at1, ↓r_at2, ↓r_at3, ↓r_neg, ↓r_negC, ↓r_b, ↓r_bl, ↓r_and, ↓r_or, ↓r_not, ↓r_andV, ↓r_orV, ↓r_notV, ↓r_bl', ↓r_if, ↓r_ifS, ↓r_asg, ↓r_name, ↓r_jnil, ↓r_jcons, ↓r_jtup, ↓r_jlst, ↓r_jlstP, ↓r_jsub, ↓r_jcut, ↓r_jcutP, ↓r_jcutA, ↓r_in2, ↓r_stP, ↓r_st0, ↓r_st1, ↓r_st2, ↓r_par, ↓r_ret, ↓r_retN, ↓r_drop, ↓r_brk, ↓r_cont, ↓r_raise, ↓r_nil, ↓r_cons, ↓r_tup, ↓r_lst, ↓r_new, ↓r_frz, ↓r_frzP, ↓r_cb, ↓r_call, ↓r_abs, ↓r_max, ↓r_min, ↓r_intI, ↓r_intB, ↓r_lenT, ↓r_lenL, ↓r_lenR, ↓r_lenP, ↓r_listL, ↓r_listR, ↓r_listOL, ↓r_tupleL, ↓r_tupleP, ↓r_isiII, ↓r_isiIB, ↓r_isiBI, ↓r_isiBB, ↓r_isiTT, ↓r_isiLL, ↓r_app, ↓r_appP, ↓r_clr, ↓r_clrP, ↓r_lstP, ↓r_cut, ↓r_onone, ↓r_osome, ↓r_int', ↓r_cutT, ↓r_cutLs, ↓r_cutP, ↓r_range1, ↓r_rg1, ↓rs0, ↓rsS, ↓ite_dec, ↓ite_ndec, ↓put_put, startD, List.length_cons, List.length_nil, and_assoc, and_true, true_and, and_self, or_self, or_false, false_or, or_true, true_or, decide_eq_true_eq, decide_true, decide_false, Bool.not_true, Bool.not_false, Bool.false_eq_true, if_true, if_false, ↓reduceIte, ne_eq, Nat.reduceLeDiff, Nat.reduceAdd, not_false_eq_true, not_true_eq_false, reduceCtorEq, Option.some.injEq, Int.reduceToNat, Int.reducePow, Int.reduceAdd, Int.reduceMul, Int.reduceSub, Int.reduceNeg, Int.reduceEq, List.nil_append, List.cons_append, ↓r_keep, ↓r_isExc, ↓r_indexM, ↓r_lstL, ↓r_eqF, ↓r_neF, ↓r_eqM, ↓r_neM, ↓r_isiFr, ↓r_eqB, ↓r_neB, beq_self_eq_true, ↓r_cutO, ↓r_cutOL, ↓r_cutOP])
    refine ⟨(2, 1), _, n + n + 2, rfl, f2, c1, o2.mono (by omega), b1.mono (by omega), by omega, ?_⟩
    (try simp only [↓r_wm1, ↓r_wm2, ↓r_wm3, ↓r_wm4, ↓r_forT, ↓r_forI, ↓r_fU0, ↓r_fU1, ↓r_turn, ↓r_yes, ↓r_ofrz, ↓r_oown, ↓r_w0, ↓r_w1, ↓r_w2, ↓r_w3, ↓r_w4, ↓r_lcT, ↓r_lcI, ↓r_lcR, ↓r_cU0, ↓r_cU1, ↓r_s0, ↓r_n0, ↓r_s1, ↓r_n1, ↓r_s2, ↓r_n2, ↓r_s3, ↓r_n3, ↓r_s4, ↓r_n4, ↓r_s5, ↓r_n5, ↓r_s6, ↓r_n6, ↓r_s7, ↓r_n7, ↓r_s8, ↓r_n8, ↓r_s9, ↓r_n9, ↓r_s10, ↓r_n10, ↓r_s11, ↓r_n11, ↓r_s12, ↓r_n12, ↓r_s13, ↓r_n13, ↓r_s14, ↓r_n14, ↓r_s15, ↓r_n15, ↓r_s16, ↓r_n16, ↓r_s17, ↓r_n17, ↓r_s18, ↓r_n18, ↓r_s19, ↓r_n19, ↓r_s20, ↓r_n20, ↓r_s21, ↓r_n21, ↓r_s22, ↓r_n22, ↓r_s23, ↓r_n23, ↓r_s24, ↓r_n24, ↓r_s25, ↓r_n25, ↓r_fr0, ↓r_fr1, ↓r_frL, ↓r_frN, ↓r_frNN, ↓r_max3, ↓r_seq, ↓r_next, ↓r_var0, ↓r_varS, ↓r_c, ↓r_op, ↓r_addI, ↓r_addS, ↓r_addT, ↓r_addL, ↓r_sub, ↓r_mul, ↓r_div, ↓r_mod, ↓r_pow, ↓r_lt, ↓r_le, ↓r_gt, ↓r_ge, ↓r_eqI, ↓r_neI, ↓r_isN, ↓r_isT, ↓r_isI, ↓r_isR, ↓r_inN, ↓r_inT, ↓r_inI, ↓r_ixT, ↓r_ixLs, ↓r_ixRo, ↓r_ixP, ↓r_at0, ↓r_at1, ↓r_at2, ↓r_at3, ↓r_neg, ↓r_negC, ↓r_b, ↓r_bl, ↓r_and, ↓r_or, ↓r_not, ↓r_andV, ↓r_orV, ↓r_notV, ↓r_bl', ↓r_if, ↓r_ifS, ↓r_asg, ↓r_name, ↓r_jnil, ↓r_jcons, ↓r_jtup, ↓r_jlst, ↓r_jlstP, ↓r_jsub, ↓r_jcut, ↓r_jcutP, ↓r_jcutA, ↓r_in2, ↓r_stP, ↓r_st0, ↓r_st1, ↓r_st2, ↓r_par, ↓r_ret, ↓r_retN, ↓r_drop, ↓r_brk, ↓r_cont, ↓r_raise, ↓r_nil, ↓r_cons, ↓r_tup, ↓r_lst, ↓r_new, ↓r_frz, ↓r_frzP, ↓r_cb, ↓r_call, ↓r_abs, ↓r_max, ↓r_min, ↓r_intI, ↓r_intB, ↓r_lenT, ↓r_lenL, ↓r_lenR, ↓r_lenP, ↓r_listL, ↓r_listR, ↓r_listOL, ↓r_tupleL, ↓r_tupleP, ↓r_isiII, ↓r_isiIB, ↓r_isiBI, ↓r_isiBB, ↓r_isiTT, ↓r_isiLL, ↓r_app, ↓r_appP, ↓r_clr, ↓r_clrP, ↓r_lstP, ↓r_cut, ↓r_onone, ↓r_osome, ↓r_int', ↓r_cutT, ↓r_cutLs, ↓r_cutP, ↓r_range1, ↓r_rg1, ↓rs0, ↓rsS, ↓ite_dec, ↓ite_ndec, ↓put_put, startD, List.length_cons, List.length_nil, and_assoc, and_true, true_and, and_self, or_self, or_false, false_or, or_true, true_or, decide_eq_true_eq, decide_true, decide_false, Bool.not_true, Bool.not_false, Bool.false_eq_true, if_true, if_false, ↓reduceIte, ne_eq, Nat.reduceLeDiff, Nat.reduceAdd, not_false_eq_true, not_true_eq_false, reduceCtorEq, Option.some.injEq, Int.reduceToNat, Int.reducePow, Int.reduceAdd, Int.reduceMul, Int.reduceSub, Int.reduceNeg, Int.reduceEq, List.nil_append, List.cons_append, ↓r_keep, ↓r_isExc, ↓r_indexM, ↓r_lstL, ↓r_eqF, ↓r_neF, ↓r_eqM, ↓r_neM, ↓r_isiFr, ↓r_eqB, ↓r_neB, beq_self_eq_true, ↓r_cutO, ↓r_cutOL, ↓r_cutOP])
    refine ⟨(b, 1), _, n + 2 + (n + n), rfl, fb, c2, zb.mono (by omega), b2, by omega, ?_⟩
    (try simp only [↓r_wm1, ↓r_wm2, ↓r_wm3, ↓r_wm4, ↓r_forT, ↓r_forI, ↓r_fU0, ↓r_fU1, ↓r_turn, ↓r_yes, ↓r_ofrz, ↓r_oown, ↓r_w0, ↓r_w1, ↓r_w2, ↓r_w3, ↓r_w4, ↓r_lcT, ↓r_lcI, ↓r_lcR, ↓r_cU0, ↓r_cU1, ↓r_s0, ↓r_n0, ↓r_s1, ↓r_n1, ↓r_s2, ↓r_n2, ↓r_s3, ↓r_n3, ↓r_s4, ↓r_n4, ↓r_s5, ↓r_n5, ↓r_s6, ↓r_n6, ↓r_s7, ↓r_n7, ↓r_s8, ↓r_n8, ↓r_s9, ↓r_n9, ↓r_s10, ↓r_n10, ↓r_s11, ↓r_n11, ↓r_s12, ↓r_n12, ↓r_s13, ↓r_n13, ↓r_s14, ↓r_n14, ↓r_s15, ↓r_n15, ↓r_s16, ↓r_n16, ↓r_s17, ↓r_n17, ↓r_s18, ↓r_n18, ↓r_s19, ↓r_n19, ↓r_s20, ↓r_n20, ↓r_s21, ↓r_n21, ↓r_s22, ↓r_n22, ↓r_s23, ↓r_n23, ↓r_s24, ↓r_n24, ↓r_s25, ↓r_n25, ↓r_fr0, ↓r_fr1, ↓r_frL, ↓r_frN, ↓r_frNN, ↓r_max3, ↓r_seq, ↓r_next, ↓r_var0, ↓r_varS, ↓r_c, ↓r_op, ↓r_addI, ↓r_addS, ↓r_addT, ↓r_addL, ↓r_sub, ↓r_mul, ↓r_div, ↓r_mod, ↓r_pow, ↓r_lt, ↓r_le, ↓r_gt, ↓r_ge, ↓r_eqI, ↓r_neI, ↓r_isN, ↓r_isT, ↓r_isI, ↓r_isR, ↓r_inN, ↓r_inT, ↓r_inI, ↓r_ixT, ↓r_ixLs, ↓r_ixRo, ↓r_ixP, ↓r_at0, ↓r_at1, ↓r_at2, ↓r_at3, ↓r_neg, ↓r_negC, ↓r_b, ↓r_bl, ↓r_and, ↓r_or, ↓r_not, ↓r_andV, ↓r_orV, ↓r_notV, ↓r_bl', ↓r_if, ↓r_ifS, ↓r_asg, ↓r_name, ↓r_jnil, ↓r_jcons, ↓r_jtup, ↓r_jlst, ↓r_jlstP, ↓r_jsub, ↓r_jcut, ↓r_jcutP, ↓r_jcutA, ↓r_in2, ↓r_stP, ↓r_st0, ↓r_st1, ↓r_st2, ↓r_par, ↓r_ret, ↓r_retN, ↓r_drop, ↓r_brk, ↓r_cont, ↓r_raise, ↓r_nil, ↓r_cons, ↓r_tup, ↓r_lst, ↓r_new, ↓r_frz, ↓r_frzP, ↓r_cb, ↓r_call, ↓r_abs, ↓r_max, ↓r_min, ↓r_intI, ↓r_intB, ↓r_lenT, ↓r_lenL, ↓r_lenR, ↓r_lenP, ↓r_listL, ↓r_listR, ↓r_listOL, ↓r_tupleL, ↓r_tupleP, ↓r_isiII, ↓r_isiIB, ↓r_isiBI, ↓r_isiBB, ↓r_isiTT, ↓r_isiLL, ↓r_app, ↓r_appP, ↓r_clr, ↓r_clrP, ↓r_lstP, ↓r_cut, ↓r_onone, ↓r_osome, ↓r_int', ↓r_cutT, ↓r_cutLs, ↓r_cutP, ↓r_range1, ↓r_rg1, ↓rs0, ↓rsS, ↓ite_dec, ↓ite_ndec, ↓put_put, startD, List.length_cons, List.length_nil, and_assoc, and_true, true_and, and_self, or_self, or_false, false_or, or_true, true_or, decide_eq_true_eq, decide_true, decide_false, Bool.not_true, Bool.not_false, Bool.false_eq_true, if_true, if_false, ↓reduceIte, ne_eq, Nat.reduceLeDiff, Nat.reduceAdd, not_false_eq_true, not_true_eq_false, reduceCtorEq, Option.some.injEq, Int.reduceToNat, Int.reducePow, Int.reduceAdd, Int.reduceMul, Int.reduceSub, Int.reduceNeg, Int.reduceEq, List.nil_append, List.cons_append, ↓r_keep, ↓r_isExc, ↓r_indexM, ↓r_lstL, ↓r_eqF, ↓r_neF, ↓r_eqM, ↓r_neM, ↓r_isiFr, ↓r_eqB, ↓r_neB, beq_self_eq_true, ↓r_cutO, ↓r_cutOL, ↓r_cutOP])
    refine ⟨q, q, n, rfl, hq, hq, bq, bq, by omega, ?_⟩
    (try simp only [↓r_wm1, ↓r_wm2, ↓r_wm3, ↓r_wm4, ↓r_forT, ↓r_forI, ↓r_fU0, ↓r_fU1, ↓r_turn, ↓r_yes, ↓r_ofrz, ↓r_oown, ↓r_w0, ↓r_w1, ↓r_w2, ↓r_w3, ↓r_w4, ↓r_lcT, ↓r_lcI, ↓r_lcR, ↓r_cU0, ↓r_cU1, ↓r_s0, ↓r_n0, ↓r_s1, ↓r_n1, ↓r_s2, ↓r_n2, ↓r_s3, ↓r_n3, ↓r_s4, ↓r_n4, ↓r_s5, ↓r_n5, ↓r_s6, ↓r_n6, ↓r_s7, ↓r_n7, ↓r_s8, ↓r_n8, ↓r_s9, ↓r_n9, ↓r_s10, ↓r_n10, ↓r_s11, ↓r_n11, ↓r_s12, ↓r_n12, ↓r_s13, ↓r_n13, ↓r_s14, ↓r_n14, ↓r_s15, ↓r_n15, ↓r_s16, ↓r_n16, ↓r_s17, ↓r_n17, ↓r_s18, ↓r_n18, ↓r_s19, ↓r_n19, ↓r_s20, ↓r_n20, ↓r_s21, ↓r_n21, ↓r_s22, ↓r_n22, ↓r_s23, ↓r_n23, ↓r_s24, ↓r_n24, ↓r_s25, ↓r_n25, ↓r_fr0, ↓r_fr1, ↓r_frL, ↓r_frN, ↓r_frNN, ↓r_max3, ↓r_seq, ↓r_next, ↓r_var0, ↓r_varS, ↓r_c, ↓r_op, ↓r_addI, ↓r_addS, ↓r_addT, ↓r_addL, ↓r_sub, ↓r_mul, ↓r_div, ↓r_mod, ↓r_pow, ↓r_lt, ↓r_le, ↓r_gt, ↓r_ge, ↓r_eqI, ↓r_neI, ↓r_isN, ↓r_isT, ↓r_isI, ↓r_isR, ↓r_inN, ↓r_inT, ↓r_inI, ↓r_ixT, ↓r_ixLs, ↓r_ixRo, ↓r_ixP, ↓r_at0, ↓r_at1, ↓r_at2, ↓r_at3, ↓r_neg, ↓r_negC, ↓r_b, ↓r_bl, ↓r_and, ↓r_or, ↓r_not, ↓r_andV, ↓r_orV, ↓r_notV, ↓r_bl', ↓r_if, ↓r_ifS, ↓r_asg, ↓r_name, ↓r_jnil, ↓r_jcons, ↓r_jtup, ↓r_jlst, ↓r_jlstP, ↓r_jsub, ↓r_jcut, ↓r_jcutP, ↓r_jcutA, ↓r_in2, ↓r_stP, ↓r_st0, ↓r_st1, ↓r_st2, ↓r_par, ↓r_ret, ↓r_retN, ↓r_drop, ↓r_brk, ↓r_cont, ↓r_raise, ↓r_nil, ↓r_cons, ↓r_tup, ↓r_lst, ↓r_new, ↓r_frz, ↓r_frzP, ↓r_cb, ↓r_call, ↓r_abs, ↓r_max, ↓r_min, ↓r_intI, ↓r_intB, ↓r_lenT, ↓r_lenL, ↓r_lenR, ↓r_lenP, ↓r_listL, ↓r_listR, ↓r_listOL, ↓r_tupleL, ↓r_tupleP, ↓r_isiII, ↓r_isiIB, ↓r_isiBI, ↓r_isiBB, ↓r_isiTT, ↓r_isiLL, ↓r_app, ↓r_appP, ↓r_clr, ↓r_clrP, ↓r_lstP, ↓r_cut, ↓r_onone, ↓r_osome, ↓r_int', ↓r_cutT, ↓r_cutLs, ↓r_cutP, ↓r_range1, ↓r_rg1, ↓rs0, ↓rsS, ↓ite_dec, ↓ite_ndec, ↓put_put, startD, List.length_cons, List.length_nil, and_assoc, and_true, true_and, and_self, or_self, or_false, false_or, or_true, true_or, decide_eq_true_eq, decide_true, decide_false, Bool.not_true, Bool.not_false, Bool.false_eq_true, if_true, if_false, ↓reduceIte, ne_eq, Nat.reduceLeDiff, Nat.reduceAdd, not_false_eq_true, not_true_eq_false, reduceCtorEq, Option.some.injEq, Int.reduceToNat, Int.reducePow, Int.reduceAdd, Int.reduceMul, Int.reduceSub, Int.reduceNeg, Int.reduceEq, List.nil_append, List.cons_append, ↓r_keep, ↓r_isExc, ↓r_indexM, ↓r_lstL, ↓r_eqF, ↓r_neF, ↓r_eqM, ↓r_neM, ↓r_isiFr, ↓r_eqB, ↓r_neB, beq_self_eq_true, ↓r_cutO, ↓r_cutOL, ↓r_cutOP])
    refine ⟨(a, 1), _, n + n, rfl, fa, c3, za.mono (by omega), b3, by omega, ?_⟩
    (try simp only [↓r_wm1, ↓r_wm2, ↓r_wm3, ↓r_wm4, ↓r_forT, ↓r_forI, ↓r_fU0, ↓r_fU1, ↓r_turn, ↓r_yes, ↓r_ofrz, ↓r_oown, ↓r_w0, ↓r_w1, ↓r_w2, ↓r_w3, ↓r_w4, ↓r_lcT, ↓r_lcI, ↓r_lcR, ↓r_cU0, ↓r_cU1, ↓r_s0, ↓r_n0, ↓r_s1, ↓r_n1, ↓r_s2, ↓r_n2, ↓r_s3, ↓r_n3, ↓r_s4, ↓r_n4, ↓r_s5, ↓r_n5, ↓r_s6, ↓r_n6, ↓r_s7, ↓r_n7, ↓r_s8, ↓r_n8, ↓r_s9, ↓r_n9, ↓r_s10, ↓r_n10, ↓r_s11, ↓r_n11, ↓r_s12, ↓r_n12, ↓r_s13, ↓r_n13, ↓r_s14, ↓r_n14, ↓r_s15, ↓r_n15, ↓r_s16, ↓r_n16, ↓r_s17, ↓r_n17, ↓r_s18, ↓r_n18, ↓r_s19, ↓r_n19, ↓r_s20, ↓r_n20, ↓r_s21, ↓r_n21, ↓r_s22, ↓r_n22, ↓r_s23, ↓r_n23, ↓r_s24, ↓r_n24, ↓r_s25, ↓r_n25, ↓r_fr0, ↓r_fr1, ↓r_frL, ↓r_frN, ↓r_frNN, ↓r_max3, ↓r_seq, ↓r_next, ↓r_var0, ↓r_varS, ↓r_c, ↓r_op, ↓r_addI, ↓r_addS, ↓r_addT, ↓r_addL, ↓r_sub, ↓r_mul, ↓r_div, ↓r_mod, ↓r_pow, ↓r_lt, ↓r_le, ↓r_gt, ↓r_ge, ↓r_eqI, ↓r_neI, ↓r_isN, ↓r_isT, ↓r_isI, ↓r_isR, ↓r_inN, ↓r_inT, ↓r_inI, ↓r_ixT, ↓r_ixLs, ↓r_ixRo, ↓r_ixP, ↓r_at0, ↓r_at1, ↓r_at2, ↓r_at3, ↓r_neg, ↓r_negC, ↓r_b, ↓r_bl, ↓r_and, ↓r_or, ↓r_not, ↓r_andV, ↓r_orV, ↓r_notV, ↓r_bl', ↓r_if, ↓r_ifS, ↓r_asg, ↓r_name, ↓r_jnil, ↓r_jcons, ↓r_jtup, ↓r_jlst, ↓r_jlstP, ↓r_jsub, ↓r_jcut, ↓r_jcutP, ↓r_jcutA, ↓r_in2, ↓r_stP, ↓r_st0, ↓r_st1, ↓r_st2, ↓r_par, ↓r_ret, ↓r_retN, ↓r_drop, ↓r_brk, ↓r_cont, ↓r_raise, ↓r_nil, ↓r_cons, ↓r_tup, ↓r_lst, ↓r_new, ↓r_frz, ↓r_frzP, ↓r_cb, ↓r_call, ↓r_abs, ↓r_max, ↓r_min, ↓r_intI, ↓r_intB, ↓r_lenT, ↓r_lenL, ↓r_lenR, ↓r_lenP, ↓r_listL, ↓r_listR, ↓r_listOL, ↓r_tupleL, ↓r_tupleP, ↓r_isiII, ↓r_isiIB, ↓r_isiBI, ↓r_isiBB, ↓r_isiTT, ↓r_isiLL, ↓r_app, ↓r_appP, ↓r_clr, ↓r_clrP, ↓r_lstP, ↓r_cut, ↓r_onone, ↓r_osome, ↓r_int', ↓r_cutT, ↓r_cutLs, ↓r_cutP, ↓r_range1, ↓r_rg1, ↓rs0, ↓rsS, ↓ite_dec, ↓ite_ndec, ↓put_put, startD, List.length_cons, List.length_nil, and_assoc, and_true, true_and, and_self, or_self, or_false, false_or, or_true, true_or, decide_eq_true_eq, decide_true, decide_false, Bool.not_true, Bool.not_false, Bool.false_eq_true, if_true, if_false, ↓reduceIte, ne_eq, Nat.reduceLeDiff, Nat.reduceAdd, not_false_eq_true, not_true_eq_false, reduceCtorEq, Option.some.injEq, Int.reduceToNat, Int.reducePow, Int.reduceAdd, Int.reduceMul, Int.reduceSub, Int.reduceNeg, Int.reduceEq, List.nil_append, List.cons_append, ↓r_keep, ↓r_isExc, ↓r_indexM, ↓r_lstL, ↓r_eqF, ↓r_neF, ↓r_eqM, ↓r_neM, ↓r_isiFr, ↓r_eqB, ↓r_neB, beq_self_eq_true, ↓r_cutO, ↓r_cutOL, ↓r_cutOP])
    refine ⟨(b, 1), q, n, rfl, fb, hq, zb, bq, by omega, ?_⟩
    (try simp only [↓r_wm1, ↓r_wm2, ↓r_wm3, ↓r_wm4, ↓r_forT, ↓r_forI, ↓r_fU0, ↓r_fU1, ↓r_turn, ↓r_yes, ↓r_ofrz, ↓r_oown, ↓r_w0, ↓r_w1, ↓r_w2, ↓r_w3, ↓r_w4, ↓r_lcT, ↓r_lcI, ↓r_lcR, ↓r_cU0, ↓r_cU1, ↓r_s0, ↓r_n0, ↓r_s1, ↓r_n1, ↓r_s2, ↓r_n2, ↓r_s3, ↓r_n3, ↓r_s4, ↓r_n4, ↓r_s5, ↓r_n5, ↓r_s6, ↓r_n6, ↓r_s7, ↓r_n7, ↓r_s8, ↓r_n8, ↓r_s9, ↓r_n9, ↓r_s10, ↓r_n10, ↓r_s11, ↓r_n11, ↓r_s12, ↓r_n12, ↓r_s13, ↓r_n13, ↓r_s14, ↓r_n14, ↓r_s15, ↓r_n15, ↓r_s16, ↓r_n16, ↓r_s17, ↓r_n17, ↓r_s18, ↓r_n18, ↓r_s19, ↓r_n19, ↓r_s20, ↓r_n20, ↓r_s21, ↓r_n21, ↓r_s22, ↓r_n22, ↓r_s23, ↓r_n23, ↓r_s24, ↓r_n24, ↓r_s25, ↓r_n25, ↓r_fr0, ↓r_fr1, ↓r_frL, ↓r_frN, ↓r_frNN, ↓r_max3, ↓r_seq, ↓r_next, ↓r_var0, ↓r_varS, ↓r_c, ↓r_op, ↓r_addI, ↓r_addS, ↓r_addT, ↓r_addL, ↓r_sub, ↓r_mul, ↓r_div, ↓r_mod, ↓r_pow, ↓r_lt, ↓r_le, ↓r_gt, ↓r_ge, ↓r_eqI, ↓r_neI, ↓r_isN, ↓r_isT, ↓r_isI, ↓r_isR, ↓r_inN, ↓r_inT, ↓r_inI, ↓r_ixT, ↓r_ixLs, ↓r_ixRo, ↓r_ixP, ↓r_at0, ↓r_at1, ↓r_at2, ↓r_at3, ↓r_neg, ↓r_negC, ↓r_b, ↓r_bl, ↓r_and, ↓r_or, ↓r_not, ↓r_andV, ↓r_orV, ↓r_notV, ↓r_bl', ↓r_if, ↓r_ifS, ↓r_asg, ↓r_name, ↓r_jnil, ↓r_jcons, ↓r_jtup, ↓r_jlst, ↓r_jlstP, ↓r_jsub, ↓r_jcut, ↓r_jcutP, ↓r_jcutA, ↓r_in2, ↓r_stP, ↓r_st0, ↓r_st1, ↓r_st2, ↓r_par, ↓r_ret, ↓r_retN, ↓r_drop, ↓r_brk, ↓r_cont, ↓r_raise, ↓r_nil, ↓r_cons, ↓r_tup, ↓r_lst, ↓r_new, ↓r_frz, ↓r_frzP, ↓r_cb, ↓r_call, ↓r_abs, ↓r_max, ↓r_min, ↓r_intI, ↓r_intB, ↓r_lenT, ↓r_lenL, ↓r_lenR, ↓r_lenP, ↓r_listL, ↓r_listR, ↓r_listOL, ↓r_tupleL, ↓r_tupleP, ↓r_isiII, ↓r_isiIB, ↓r_isiBI, ↓r_isiBB, ↓r_isiTT, ↓r_isiLL, ↓r_app, ↓r_appP, ↓r_clr, ↓r_clrP, ↓r_lstP, ↓r_cut, ↓r_onone, ↓r_osome, ↓r_int', ↓r_cutT, ↓r_cutLs, ↓r_cutP, ↓r_range1, ↓r_rg1, ↓rs0, ↓rsS, ↓ite_dec, ↓ite_ndec, ↓put_put, startD, List.length_cons, List.length_nil, and_assoc, and_true, true_and, and_self, or_self, or_false, false_or, or_true, true_or, decide_eq_true_eq, decide_true, decide_false, Bool.not_true, Bool.not_false, Bool.false_eq_true, if_true, if_false, ↓reduceIte, ne_eq, Nat.reduceLeDiff, Nat.reduceAdd, not_false_eq_true, not_true_eq_false, reduceCtorEq, Option.some.injEq, Int.reduceToNat, Int.reducePow, Int.reduceAdd, Int.reduceMul, Int.reduceSub, Int.reduceNeg, Int.reduceEq, List.nil_append, List.cons_append, ↓r_keep, ↓r_isExc, ↓r_indexM, ↓r_lstL, ↓r_eqF, ↓r_neF, ↓r_eqM, ↓r_neM, ↓r_isiFr, ↓r_eqB, ↓r_neB, beq_self_eq_true, ↓r_cutO, ↓r_cutOL, ↓r_cutOP])
    refine ⟨_, _, n + (n + n), rfl, c4, c5, b4, b5.mono (by omega), by omega, ?_⟩
    (try simp only [↓r_wm1, ↓r_wm2, ↓r_wm3, ↓r_wm4, ↓r_forT, ↓r_forI, ↓r_fU0, ↓r_fU1, ↓r_turn, ↓r_yes, ↓r_ofrz, ↓r_oown, ↓r_w0, ↓r_w1, ↓r_w2, ↓r_w3, ↓r_w4, ↓r_lcT, ↓r_lcI, ↓r_lcR, ↓r_cU0, ↓r_cU1, ↓r_s0, ↓r_n0, ↓r_s1, ↓r_n1, ↓r_s2, ↓r_n2, ↓r_s3, ↓r_n3, ↓r_s4, ↓r_n4, ↓r_s5, ↓r_n5, ↓r_s6, ↓r_n6, ↓r_s7, ↓r_n7, ↓r_s8, ↓r_n8, ↓r_s9, ↓r_n9, ↓r_s10, ↓r_n10, ↓r_s11, ↓r_n11, ↓r_s12, ↓r_n12, ↓r_s13, ↓r_n13, ↓r_s14, ↓r_n14, ↓r_s15, ↓r_n15, ↓r_s16, ↓r_n16, ↓r_s17, ↓r_n17, ↓r_s18, ↓r_n18, ↓r_s19, ↓r_n19, ↓r_s20, ↓r_n20, ↓r_s21, ↓r_n21, ↓r_s22, ↓r_n22, ↓r_s23, ↓r_n23, ↓r_s24, ↓r_n24, ↓r_s25, ↓r_n25, ↓r_fr0, ↓r_fr1, ↓r_frL, ↓r_frN, ↓r_frNN, ↓r_max3, ↓r_seq, ↓r_next, ↓r_var0, ↓r_varS, ↓r_c, ↓r_op, ↓r_addI, ↓r_addS, ↓r_addT, ↓r_addL, ↓r_sub, ↓r_mul, ↓r_div, ↓r_mod, ↓r_pow, ↓r_lt, ↓r_le, ↓r_gt, ↓r_ge, ↓r_eqI, ↓r_neI, ↓r_isN, ↓r_isT, ↓r_isI, ↓r_isR, ↓r_inN, ↓r_inT, ↓r_inI, ↓r_ixT, ↓r_ixLs, ↓r_ixRo, ↓r_ixP, ↓r_at0, ↓r_at1, ↓r_at2, ↓r_at3, ↓r_neg, ↓r_negC, ↓r_b, ↓r_bl, ↓r_and, ↓r_or, ↓r_not, ↓r_andV, ↓r_orV, ↓r_notV, ↓r_bl', ↓r_if, ↓r_ifS, ↓r_asg, ↓r_name, ↓r_jnil, ↓r_jcons, ↓r_jtup, ↓r_jlst, ↓r_jlstP, ↓r_jsub, ↓r_jcut, ↓r_jcutP, ↓r_jcutA, ↓r_in2, ↓r_stP, ↓r_st0, ↓r_st1, ↓r_st2, ↓r_par, ↓r_ret, ↓r_retN, ↓r_drop, ↓r_brk, ↓r_cont, ↓r_raise, ↓r_nil, ↓r_cons, ↓r_tup, ↓r_lst, ↓r_new, ↓r_frz, ↓r_frzP, ↓r_cb, ↓r_call, ↓r_abs, ↓r_max, ↓r_min, ↓r_intI, ↓r_intB, ↓r_lenT, ↓r_lenL, ↓r_lenR, ↓r_lenP, ↓r_listL, ↓r_listR, ↓r_listOL, ↓r_tupleL, ↓r_tupleP, ↓r_isiII, ↓r_isiIB, ↓r_isiBI, ↓r_isiBB, ↓r_isiTT, ↓r_isiLL, ↓r_app, ↓r_appP, ↓r_clr, ↓r_clrP, ↓r_lstP, ↓r_cut, ↓r_onone, ↓r_osome, ↓r_int', ↓r_cutT, ↓r_cutLs, ↓r_cutP, ↓r_range1, ↓r_rg1, ↓rs0, ↓rsS, ↓ite_dec, ↓ite_ndec, ↓put_put, startD, List.length_cons, List.length_nil, and_assoc, and_true, true_and, and_self, or_self, or_false, false_or, or_true, true_or, decide_eq_true_eq, decide_true, decide_false, Bool.not_true, Bool.not_false, Bool.false_eq_true, if_true, if_false, ↓reduceIte, ne_eq, Nat.reduceLeDiff, Nat.reduceAdd, not_false_eq_true, not_true_eq_false, reduceCtorEq, Option.some.injEq, Int.reduceToNat, Int.reducePow, Int.reduceAdd, Int.reduceMul, Int.reduceSub, Int.reduceNeg, Int.reduceEq, List.nil_append, List.cons_append, ↓r_keep, ↓r_isExc, ↓r_indexM, ↓r_lstL, ↓r_eqF, ↓r_neF, ↓r_eqM, ↓r_neM, ↓r_isiFr, ↓r_eqB, ↓r_neB, beq_self_eq_true, ↓r_cutO, ↓r_cutOL, ↓r_cutOP])
    refine ⟨_, (c, 1), n + (n + n) + (n + n) + 1, rfl, c6, fc, b6, zc.mono (by omega), by omega, ?_⟩
    (try simp only [↓r_wm1, ↓r_wm2, ↓r_wm3, ↓r_wm4, ↓r_forT, ↓r_forI, ↓r_fU0, ↓r_fU1, ↓r_turn, ↓r_yes, ↓r_ofrz, ↓r_oown, ↓r_w0, ↓r_w1, ↓r_w2, ↓r_w3, ↓r_w4, ↓r_lcT, ↓r_lcI, ↓r_lcR, ↓r_cU0, ↓r_cU1, ↓r_s0, ↓r_n0, ↓r_s1, ↓r_n1, ↓r_s2, ↓r_n2, ↓r_s3, ↓r_n3, ↓r_s4, ↓r_n4, ↓r_s5, ↓r_n5, ↓r_s6, ↓r_n6, ↓r_s7, ↓r_n7, ↓r_s8, ↓r_n8, ↓r_s9, ↓r_n9, ↓r_s10, ↓r_n10, ↓r_s11, ↓r_n11, ↓r_s12, ↓r_n12, ↓r_s13, ↓r_n13, ↓r_s14, ↓r_n14, ↓r_s15, ↓r_n15, ↓r_s16, ↓r_n16, ↓r_s17, ↓r_n17, ↓r_s18, ↓r_n18, ↓r_s19, ↓r_n19, ↓r_s20, ↓r_n20, ↓r_s21, ↓r_n21, ↓r_s22, ↓r_n22, ↓r_s23, ↓r_n23, ↓r_s24, ↓r_n24, ↓r_s25, ↓r_n25, ↓r_fr0, ↓r_fr1, ↓r_frL, ↓r_frN, ↓r_frNN, ↓r_max3, ↓r_seq, ↓r_next, ↓r_var0, ↓r_varS, ↓r_c, ↓r_op, ↓r_addI, ↓r_addS, ↓r_addT, ↓r_addL, ↓r_sub, ↓r_mul, ↓r_div, ↓r_mod, ↓r_pow, ↓r_lt, ↓r_le, ↓r_gt, ↓r_ge, ↓r_eqI, ↓r_neI, ↓r_isN, ↓r_isT, ↓r_isI, ↓r_isR, ↓r_inN, ↓r_inT, ↓r_inI, ↓r_ixT, ↓r_ixLs, ↓r_ixRo, ↓r_ixP, ↓r_at0, ↓r_at1, ↓r_at2, ↓r_at3, ↓r_neg, ↓r_negC, ↓r_b, ↓r_bl, ↓r_and, ↓r_or, ↓r_not, ↓r_andV, ↓r_orV, ↓r_notV, ↓r_bl', ↓r_if, ↓r_ifS, ↓r_asg, ↓r_name, ↓r_jnil, ↓r_jcons, ↓r_jtup, ↓r_jlst, ↓r_jlstP, ↓r_jsub, ↓r_jcut, ↓r_jcutP, ↓r_jcutA, ↓r_in2, ↓r_stP, ↓r_st0, ↓r_st1, ↓r_st2, ↓r_par, ↓r_ret, ↓r_retN, ↓r_drop, ↓r_brk, ↓r_cont, ↓r_raise, ↓r_nil, ↓r_cons, ↓r_tup, ↓r_lst, ↓r_new, ↓r_frz, ↓r_frzP, ↓r_cb, ↓r_call, ↓r_abs, ↓r_max, ↓r_min, ↓r_intI, ↓r_intB, ↓r_lenT, ↓r_lenL, ↓r_lenR, ↓r_lenP, ↓r_listL, ↓r_listR, ↓r_listOL, ↓r_tupleL, ↓r_tupleP, ↓r_isiII, ↓r_isiIB, ↓r_isiBI, ↓r_isiBB, ↓r_isiTT, ↓r_isiLL, ↓r_app, ↓r_appP, ↓r_clr, ↓r_clrP, ↓r_lstP, ↓r_cut, ↓r_onone, ↓r_osome, ↓r_int', ↓r_cutT, ↓r_cutLs, ↓r_cutP, ↓r_range1, ↓r_rg1, ↓rs0, ↓rsS, ↓ite_dec, ↓ite_ndec, ↓put_put, startD, List.length_cons, List.length_nil, and_assoc, and_true, true_and, and_self, or_self, or_false, false_or, or_true, true_or, decide_eq_true_eq, decide_true, decide_false, Bool.not_true, Bool.not_false, Bool.false_eq_true, if_true, if_false, ↓reduceIte, ne_eq, Nat.reduceLeDiff, Nat.reduceAdd, not_false_eq_true, not_true_eq_false, reduceCtorEq, Option.some.injEq, Int.reduceToNat, Int.reducePow, Int.reduceAdd, Int.reduceMul, Int.reduceSub, Int.reduceNeg, Int.reduceEq, List.nil_append, List.cons_append, ↓r_keep, ↓r_isExc, ↓r_indexM, ↓r_lstL, ↓r_eqF, ↓r_neF, ↓r_eqM, ↓r_neM, ↓r_isiFr, ↓r_eqB, ↓r_neB, beq_self_eq_true, ↓r_cutO, ↓r_cutOL, ↓r_cutOP])
    rw [e]
    exact ⟨movC a b c q, s, 3 * n + 4, rfl, ok, ha, by omega, h⟩
def pr__law_grown : DSp := fun ds μ P _ => ∃ (m : Mom) (q : Int × Int) (n : Nat), ds = [m.d, fr q] ∧ m.Ok n ∧ Fr q ∧ FB n q ∧ n ≤ 90 ∧ P (grwM m q).d μ
theorem len__law_grown : ∀ ds μ P PX, pr__law_grown ds μ P PX → ds.length = (["_law_moment_here", "_law_by_here"] : List Str).length := by
  rintro ds μ P PX ⟨m, q, n, rfl, _⟩
  rfl
theorem ok__law_grown {P : Program} {w : World} {K : PySem.W.Frag} {mg : Str → Option Value} {base : Heap} {f : Addr} {fd : FuncData} (F : Fun K "_law_grown" "_law_grown" s__law_grown f fd)
    (d__law_by : Df P w K mg base "_law_by" ["_law_one", "_law_other"] 2 pr__law_by)
    (d__law_of_curve : Df P w K mg base "_law_of_curve" ["_law_curve", "_law_side"] 3 pr__law_of_curve)
    (m_len : mg "len" = none)
    (m_int : mg "int" = none) : FnOk P w K mg base (L2.CX P w) 4 f fd ["_law_moment_here", "_law_by_here"] (spD K pr__law_grown) := by
  have nd := sc__law_grown.nd
  refine fn_D (k := 3) F sc__law_grown len__law_grown (by decide) (fun cdv A outer s H E PX hr tk hp => ⟨_, (sd_cons (sd_if (pt_eq hr.units (pd_len (by rfl) m_len (da_cons (vr 0) da_nil)) pd_int)
       (sd_one (sd_ret (pd_call d__law_by tk hr (by rfl) (da_cons (vr 0) (da_cons (vr 1) da_nil)))))
       sd_nil)
      (sd_cons (sd_asg (pd_lcT rfl nd out_frz (pd_cut (vr 0) do_none (do_some pd_int)) (own := [("_law_number_here", 5)]) ⟨blkOk_by (own := [("_law_number_here", 5)]) (N := ["_law_moment_here", "_law_by_here", "_law_a", "_law_b", "_law_c", "_law_number_here", "_law_side"]) (sc := defScope s__law_grown) (by decide +kernel), fun _ _ _ _ _ => (pg_name (i := 5) nd rfl (by first | exact Or.inl rfl | exact Or.inr rfl)), (hv_name 5 (by decide)), fun _ _ _ _ _ => dts_nil, fun _ _ _ _ _ => (pd_tup (da_cons (vr 5) (da_cons pd_int da_nil)))⟩) (gd_lst (n := 3) rfl (gd_cons (gd_name 2 nd) (gd_cons (gd_name 3 nd) (gd_cons (gd_name 4 nd) gd_nil)))))
      (sd_cons (sd_set 6 nd (pd_ix (pd_lst (da_cons (pd_ix (vr 0) pd_int) (da_cons (pd_sub pd_int (pd_ix (vr 0) pd_int)) da_nil))) (pd_toint (by rfl) m_int (da_cons (pd_lt (pd_ix (vr 1) pd_int) pd_int) da_nil))))
      (sd_one (sd_ret (pd_call d__law_of_curve tk hr (by rfl) (da_cons (pd_tup (da_cons (vr 2) (da_cons (pd_call d__law_by tk hr (by rfl) (da_cons (vr 3) (da_cons (vr 1) da_nil))) (da_cons (pd_call d__law_by tk hr (by rfl) (da_cons (vr 4) (da_cons (pd_call d__law_by tk hr (by rfl) (da_cons (vr 1) (da_cons (vr 1) da_nil))) da_nil))) da_nil)))) (da_cons (vr 6) da_nil))))))))⟩) ?_
  rintro ds μ P PX ⟨m, q, n, rfl, hm, hq, bq, hn, h⟩
  cases m with
  | q x =>
    simp only [Mom.d]
    (try simp only [↓r_wm1, ↓r_wm2, ↓r_wm3, ↓r_wm4, ↓r_forT, ↓r_forI, ↓r_fU0, ↓r_fU1, ↓r_turn, ↓r_yes, ↓r_ofrz, ↓r_oown, ↓r_w0, ↓r_w1, ↓r_w2, ↓r_w3, ↓r_w4, ↓r_lcT, ↓r_lcI, ↓r_lcR, ↓r_cU0, ↓r_cU1, ↓r_s0, ↓r_n0, ↓r_s1, ↓r_n1, ↓r_s2, ↓r_n2, ↓r_s3, ↓r_n3, ↓r_s4, ↓r_n4, ↓r_s5, ↓r_n5, ↓r_s6, ↓r_n6, ↓r_s7, ↓r_n7, ↓r_s8, ↓r_n8, ↓r_s9, ↓r_n9, ↓r_s10, ↓r_n10, ↓r_s11, ↓r_n11, ↓r_s12, ↓r_n12, ↓r_s13, ↓r_n13, ↓r_s14, ↓r_n14, ↓r_s15, ↓r_n15, ↓r_s16, ↓r_n16, ↓r_s17, ↓r_n17, ↓r_s18, ↓r_n18, ↓r_s19, ↓r_n19, ↓r_s20, ↓r_n20, ↓r_s21, ↓r_n21, ↓r_s22, ↓r_n22, ↓r_s23, ↓r_n23, ↓r_s24, ↓r_n24, ↓r_s25, ↓r_n25, ↓r_fr0, ↓r_fr1, ↓r_frL, ↓r_frN, ↓r_frNN, ↓r_max3, ↓r_seq, ↓r_next, ↓r_var0, ↓r_varS, ↓r_c, ↓r_op, ↓r_addI, ↓r_addS, ↓r_addT, ↓r_addL, ↓r_sub, ↓r_mul, ↓r_div, ↓r_mod, ↓r_pow, ↓r_lt, ↓r_le, ↓r_gt, ↓r_ge, ↓r_eqI, ↓r_neI, ↓r_isN, ↓r_isT, ↓r_isI, ↓r_isR, ↓r_inN, ↓r_inT, ↓r_inI, ↓r_ixT, ↓r_ixLs, ↓r_ixRo, ↓r_ixP, ↓r_at0, ↓r_at1, ↓r_at2, ↓r_at3, ↓r_neg, ↓r_negC, ↓r_b, ↓r_bl, ↓r_and, ↓r_or, ↓r_not, ↓r_andV, ↓r_orV, ↓r_notV, ↓r_bl', ↓r_if, ↓r_ifS, ↓r_asg, ↓r_name, ↓r_jnil, ↓r_jcons, ↓r_jtup, ↓r_jlst, ↓r_jlstP, ↓r_jsub, ↓r_jcut, ↓r_jcutP, ↓r_jcutA, ↓r_in2, ↓r_stP, ↓r_st0, ↓r_st1, ↓r_st2, ↓r_par, ↓r_ret, ↓r_retN, ↓r_drop, ↓r_brk, ↓r_cont, ↓r_raise, ↓r_nil, ↓r_cons, ↓r_tup, ↓r_lst, ↓r_new, ↓r_frz, ↓r_frzP, ↓r_cb, ↓r_call, ↓r_abs, ↓r_max, ↓r_min, ↓r_intI, ↓r_intB, ↓r_lenT, ↓r_lenL, ↓r_lenR, ↓r_lenP, ↓r_listL, ↓r_listR, ↓r_listOL, ↓r_tupleL, ↓r_tupleP, ↓r_isiII, ↓r_isiIB, ↓r_isiBI, ↓r_isiBB, ↓r_isiTT, ↓r_isiLL, ↓r_app, ↓r_appP, ↓r_clr, ↓r_clrP, ↓r_lstP, ↓r_cut, ↓r_onone, ↓r_osome, ↓r_int', ↓r_cutT, ↓r_cutLs, ↓r_cutP, ↓r_range1, ↓r_rg1, ↓rs0, ↓rsS, ↓ite_dec, ↓ite_ndec, ↓put_put, startD, List.length_cons, List.length_nil, and_assoc, and_true, true_and, and_self, or_self, or_false, false_or, or_true, true_or, decide_eq_true_eq, decide_true, decide_false, Bool.not_true, Bool.not_false, Bool.false_eq_true, if_true, if_false, ↓reduceIte, ne_eq, Nat.reduceLeDiff, Nat.reduceAdd, not_false_eq_true, not_true_eq_false, reduceCtorEq, Option.some.injEq, Int.reduceToNat, Int.reducePow, Int.reduceAdd, Int.reduceMul, Int.reduceSub, Int.reduceNeg, Int.reduceEq, List.nil_append, List.cons_append, ↓r_keep, ↓r_isExc, ↓r_indexM, ↓r_lstL, ↓r_eqF, ↓r_neF, ↓r_eqM, ↓r_neM, ↓r_isiFr, ↓r_eqB, ↓r_neB, beq_self_eq_true, ↓r_cutO, ↓r_cutOL, ↓r_cutOP])
    exact ⟨x, q, n, rfl, hm.1, hq, hm.2, bq, by omega, h⟩
  | r a b c s =>
    obtain ⟨ha, ba, bb, bc, hs⟩ := hm
    have fa := fr_int a
    have fb := fr_int b
    have fc := fr_int c
    unfold ofInt at fa fb fc
    have o1 := one_bd ha ba
    have zb : FB n (b, 1) := ⟨bb, o1⟩
    have zc : FB n (c, 1) := ⟨bc, o1⟩
    have c3 := fmul_can hq hq
    have b3 := fmul_bd hq hq bq bq
    have ok := grw_ok hq ba bb bc bq
    have e3 : cutL [D.int a, .int b, .int c, .int s] none (some 3) = [.int a, .int b, .int c] := rfl
    simp only [Mom.d]
    (try simp only [↓r_wm1, ↓r_wm2, ↓r_wm3, ↓r_wm4, ↓r_forT, ↓r_forI, ↓r_fU0, ↓r_fU1, ↓r_turn, ↓r_yes, ↓r_ofrz, ↓r_oown, ↓r_w0, ↓r_w1, ↓r_w2, ↓r_w3, ↓r_w4, ↓r_lcT, ↓r_lcI, ↓r_lcR, ↓r_cU0, ↓r_cU1, ↓r_s0, ↓r_n0, ↓r_s1, ↓r_n1, ↓r_s2, ↓r_n2, ↓r_s3, ↓r_n3, ↓r_s4, ↓r_n4, ↓r_s5, ↓r_n5, ↓r_s6, ↓r_n6, ↓r_s7, ↓r_n7, ↓r_s8, ↓r_n8, ↓r_s9, ↓r_n9, ↓r_s10, ↓r_n10, ↓r_s11, ↓r_n11, ↓r_s12, ↓r_n12, ↓r_s13, ↓r_n13, ↓r_s14, ↓r_n14, ↓r_s15, ↓r_n15, ↓r_s16, ↓r_n16, ↓r_s17, ↓r_n17, ↓r_s18, ↓r_n18, ↓r_s19, ↓r_n19, ↓r_s20, ↓r_n20, ↓r_s21, ↓r_n21, ↓r_s22, ↓r_n22, ↓r_s23, ↓r_n23, ↓r_s24, ↓r_n24, ↓r_s25, ↓r_n25, ↓r_fr0, ↓r_fr1, ↓r_frL, ↓r_frN, ↓r_frNN, ↓r_max3, ↓r_seq, ↓r_next, ↓r_var0, ↓r_varS, ↓r_c, ↓r_op, ↓r_addI, ↓r_addS, ↓r_addT, ↓r_addL, ↓r_sub, ↓r_mul, ↓r_div, ↓r_mod, ↓r_pow, ↓r_lt, ↓r_le, ↓r_gt, ↓r_ge, ↓r_eqI, ↓r_neI, ↓r_isN, ↓r_isT, ↓r_isI, ↓r_isR, ↓r_inN, ↓r_inT, ↓r_inI, ↓r_ixT, ↓r_ixLs, ↓r_ixRo, ↓r_ixP, ↓r_at0, ↓r_at1, ↓r_at2, ↓r_at3, ↓r_neg, ↓r_negC, ↓r_b, ↓r_bl, ↓r_and, ↓r_or, ↓r_not, ↓r_andV, ↓r_orV, ↓r_notV, ↓r_bl', ↓r_if, ↓r_ifS, ↓r_asg, ↓r_name, ↓r_jnil, ↓r_jcons, ↓r_jtup, ↓r_jlst, ↓r_jlstP, ↓r_jsub, ↓r_jcut, ↓r_jcutP, ↓r_jcutA, ↓r_in2, ↓r_stP, ↓r_st0, ↓r_st1, ↓r_st2, ↓r_par, ↓r_ret, ↓r_retN, ↓r_drop, ↓r_brk, ↓r_cont, ↓r_raise, ↓r_nil, ↓r_cons, ↓r_tup, ↓r_lst, ↓r_new, ↓r_frz, ↓r_frzP, ↓r_cb, ↓r_call, ↓r_abs, ↓r_max, ↓r_min, ↓r_intI, ↓r_intB, ↓r_lenT, ↓r_lenL, ↓r_lenR, ↓r_lenP, ↓r_listL, ↓r_listR, ↓r_listOL, ↓r_tupleL, ↓r_tupleP, ↓r_isiII, ↓r_isiIB, ↓r_isiBI, ↓r_isiBB, ↓r_isiTT, ↓r_isiLL, ↓r_app, ↓r_appP, ↓r_clr, ↓r_clrP, ↓r_lstP, ↓r_cut, ↓r_onone, ↓r_osome, ↓r_int', ↓r_cutT, ↓r_cutLs, ↓r_cutP, ↓r_range1, ↓r_rg1, ↓rs0, ↓rsS, ↓ite_dec, ↓ite_ndec, ↓put_put, startD, List.length_cons, List.length_nil, and_assoc, and_true, true_and, and_self, or_self, or_false, false_or, or_true, true_or, decide_eq_true_eq, decide_true, decide_false, Bool.not_true, Bool.not_false, Bool.false_eq_true, if_true, if_false, ↓reduceIte, ne_eq, Nat.reduceLeDiff, Nat.reduceAdd, not_false_eq_true, not_true_eq_false, reduceCtorEq, Option.some.injEq, Int.reduceToNat, Int.reducePow, Int.reduceAdd, Int.reduceMul, Int.reduceSub, Int.reduceNeg, Int.reduceEq, List.nil_append, List.cons_append, ↓r_keep, ↓r_isExc, ↓r_indexM, ↓r_lstL, ↓r_eqF, ↓r_neF, ↓r_eqM, ↓r_neM, ↓r_isiFr, ↓r_eqB, ↓r_neB, beq_self_eq_true, ↓r_cutO, ↓r_cutOL, ↓r_cutOP])
    refine ⟨by decide, ?_⟩
    rw [e3]
    refine lcT_u (by simp) ?_
    (try simp only [↓r_wm1, ↓r_wm2, ↓r_wm3, ↓r_wm4, ↓r_forT, ↓r_forI, ↓r_fU0, ↓r_fU1, ↓r_turn, ↓r_yes, ↓r_ofrz, ↓r_oown, ↓r_w0, ↓r_w1, ↓r_w2, ↓r_w3, ↓r_w4, ↓r_lcT, ↓r_lcI, ↓r_lcR, ↓r_cU0, ↓r_cU1, ↓r_s0, ↓r_n0, ↓r_s1, ↓r_n1, ↓r_s2, ↓r_n2, ↓r_s3, ↓r_n3, ↓r_s4, ↓r_n4, ↓r_s5, ↓r_n5, ↓r_s6, ↓r_n6, ↓r_s7, ↓r_n7, ↓r_s8, ↓r_n8, ↓r_s9, ↓r_n9, ↓r_s10, ↓r_n10, ↓r_s11, ↓r_n11, ↓r_s12, ↓r_n12, ↓r_s13, ↓r_n13, ↓r_s14, ↓r_n14, ↓r_s15, ↓r_n15, ↓r_s16, ↓r_n16, ↓r_s17, ↓r_n17, ↓r_s18, ↓r_n18, ↓r_s19, ↓r_n19, ↓r_s20, ↓r_n20, ↓r_s21, ↓r_n21, ↓r_s22, ↓r_n22, ↓r_s23, ↓r_n23, ↓r_s24, ↓r_n24, ↓r_s25, ↓r_n25, ↓r_fr0, ↓r_fr1, ↓r_frL, ↓r_frN, ↓r_frNN, ↓r_max3, ↓r_seq, ↓r_next, ↓r_var0, ↓r_varS, ↓r_c, ↓r_op, ↓r_addI, ↓r_addS, ↓r_addT, ↓r_addL, ↓r_sub, ↓r_mul, ↓r_div, ↓r_mod, ↓r_pow, ↓r_lt, ↓r_le, ↓r_gt, ↓r_ge, ↓r_eqI, ↓r_neI, ↓r_isN, ↓r_isT, ↓r_isI, ↓r_isR, ↓r_inN, ↓r_inT, ↓r_inI, ↓r_ixT, ↓r_ixLs, ↓r_ixRo, ↓r_ixP, ↓r_at0, ↓r_at1, ↓r_at2, ↓r_at3, ↓r_neg, ↓r_negC, ↓r_b, ↓r_bl, ↓r_and, ↓r_or, ↓r_not, ↓r_andV, ↓r_orV, ↓r_notV, ↓r_bl', ↓r_if, ↓r_ifS, ↓r_asg, ↓r_name, ↓r_jnil, ↓r_jcons, ↓r_jtup, ↓r_jlst, ↓r_jlstP, ↓r_jsub, ↓r_jcut, ↓r_jcutP, ↓r_jcutA, ↓r_in2, ↓r_stP, ↓r_st0, ↓r_st1, ↓r_st2, ↓r_par, ↓r_ret, ↓r_retN, ↓r_drop, ↓r_brk, ↓r_cont, ↓r_raise, ↓r_nil, ↓r_cons, ↓r_tup, ↓r_lst, ↓r_new, ↓r_frz, ↓r_frzP, ↓r_cb, ↓r_call, ↓r_abs, ↓r_max, ↓r_min, ↓r_intI, ↓r_intB, ↓r_lenT, ↓r_lenL, ↓r_lenR, ↓r_lenP, ↓r_listL, ↓r_listR, ↓r_listOL, ↓r_tupleL, ↓r_tupleP, ↓r_isiII, ↓r_isiIB, ↓r_isiBI, ↓r_isiBB, ↓r_isiTT, ↓r_isiLL, ↓r_app, ↓r_appP, ↓r_clr, ↓r_clrP, ↓r_lstP, ↓r_cut, ↓r_onone, ↓r_osome, ↓r_int', ↓r_cutT, ↓r_cutLs, ↓r_cutP, ↓r_range1, ↓r_rg1, ↓rs0, ↓rsS, ↓ite_dec, ↓ite_ndec, ↓put_put, startD, List.length_cons, List.length_nil, and_assoc, and_true, true_and, and_self, or_self, or_false, false_or, or_true, true_or, decide_eq_true_eq, decide_true, decide_false, Bool.not_true, Bool.not_false, Bool.false_eq_true, if_true, if_false, ↓reduceIte, ne_eq, Nat.reduceLeDiff, Nat.reduceAdd, not_false_eq_true, not_true_eq_false, reduceCtorEq, Option.some.injEq, Int.reduceToNat, Int.reducePow, Int.reduceAdd, Int.reduceMul, Int.reduceSub, Int.reduceNeg, Int.reduceEq, List.nil_append, List.cons_append, ↓r_keep, ↓r_isExc, ↓r_indexM, ↓r_lstL, ↓r_eqF, ↓r_neF, ↓r_eqM, ↓r_neM, ↓r_isiFr, ↓r_eqB, ↓r_neB, beq_self_eq_true, ↓r_cutO, ↓r_cutOL, ↓r_cutOP])
    have sd : ∀ Q : D → Mu → Prop, Q (.int (if q.1 < 0 then 1 - s else s)) μ → ixL [D.int s, .int (1 - s)] (if q.1 < 0 then 1 else 0) μ Q := by
      intro Q hQ
      by_cases hl : q.1 < 0
      · rw [if_pos hl] at hQ ⊢
        rw [r_at1]; exact hQ
      · rw [if_neg hl] at hQ ⊢
        rw [r_at0]; exact hQ
    refine sd _ ?_
    (try simp only [↓r_wm1, ↓r_wm2, ↓r_wm3, ↓r_wm4, ↓r_forT, ↓r_forI, ↓r_fU0, ↓r_fU1, ↓r_turn, ↓r_yes, ↓r_ofrz, ↓r_oown, ↓r_w0, ↓r_w1, ↓r_w2, ↓r_w3, ↓r_w4, ↓r_lcT, ↓r_lcI, ↓r_lcR, ↓r_cU0, ↓r_cU1, ↓r_s0, ↓r_n0, ↓r_s1, ↓r_n1, ↓r_s2, ↓r_n2, ↓r_s3, ↓r_n3, ↓r_s4, ↓r_n4, ↓r_s5, ↓r_n5, ↓r_s6, ↓r_n6, ↓r_s7, ↓r_n7, ↓r_s8, ↓r_n8, ↓r_s9, ↓r_n9, ↓r_s10, ↓r_n10, ↓r_s11, ↓r_n11, ↓r_s12, ↓r_n12, ↓r_s13, ↓r_n13, ↓r_s14, ↓r_n14, ↓r_s15, ↓r_n15, ↓r_s16, ↓r_n16, ↓r_s17, ↓r_n17, ↓r_s18, ↓r_n18, ↓r_s19, ↓r_n19, ↓r_s20, ↓r_n20, ↓r_s21, ↓r_n21, ↓r_s22, ↓r_n22, ↓r_s23, ↓r_n23, ↓r_s24, ↓r_n24, ↓r_s25, ↓r_n25, ↓r_fr0, ↓r_fr1, ↓r_frL, ↓r_frN, ↓r_frNN, ↓r_max3, ↓r_seq, ↓r_next, ↓r_var0, ↓r_varS, ↓r_c, ↓r_op, ↓r_addI, ↓r_addS, ↓r_addT, ↓r_addL, ↓r_sub, ↓r_mul, ↓r_div, ↓r_mod, ↓r_pow, ↓r_lt, ↓r_le, ↓r_gt, ↓r_ge, ↓r_eqI, ↓r_neI, ↓r_isN, ↓r_isT, ↓r_isI, ↓r_isR, ↓r_inN, ↓r_inT, ↓r_inI, ↓r_ixT, ↓r_ixLs, ↓r_ixRo, ↓r_ixP, ↓r_at0, ↓r_at1, ↓r_at2, ↓r_at3, ↓r_neg, ↓r_negC, ↓r_b, ↓r_bl, ↓r_and, ↓r_or, ↓r_not, ↓r_andV, ↓r_orV, ↓r_notV, ↓r_bl', ↓r_if, ↓r_ifS, ↓r_asg, ↓r_name, ↓r_jnil, ↓r_jcons, ↓r_jtup, ↓r_jlst, ↓r_jlstP, ↓r_jsub, ↓r_jcut, ↓r_jcutP, ↓r_jcutA, ↓r_in2, ↓r_stP, ↓r_st0, ↓r_st1, ↓r_st2, ↓r_par, ↓r_ret, ↓r_retN, ↓r_drop, ↓r_brk, ↓r_cont, ↓r_raise, ↓r_nil, ↓r_cons, ↓r_tup, ↓r_lst, ↓r_new, ↓r_frz, ↓r_frzP, ↓r_cb, ↓r_call, ↓r_abs, ↓r_max, ↓r_min, ↓r_intI, ↓r_intB, ↓r_lenT, ↓r_lenL, ↓r_lenR, ↓r_lenP, ↓r_listL, ↓r_listR, ↓r_listOL, ↓r_tupleL, ↓r_tupleP, ↓r_isiII, ↓r_isiIB, ↓r_isiBI, ↓r_isiBB, ↓r_isiTT, ↓r_isiLL, ↓r_app, ↓r_appP, ↓r_clr, ↓r_clrP, ↓r_lstP, ↓r_cut, ↓r_onone, ↓r_osome, ↓r_int', ↓r_cutT, ↓r_cutLs, ↓r_cutP, ↓r_range1, ↓r_rg1, ↓rs0, ↓rsS, ↓ite_dec, ↓ite_ndec, ↓put_put, startD, List.length_cons, List.length_nil, and_assoc, and_true, true_and, and_self, or_self, or_false, false_or, or_true, true_or, decide_eq_true_eq, decide_true, decide_false, Bool.not_true, Bool.not_false, Bool.false_eq_true, if_true, if_false, ↓reduceIte, ne_eq, Nat.reduceLeDiff, Nat.reduceAdd, not_false_eq_true, not_true_eq_false, reduceCtorEq, Option.some.injEq, Int.reduceToNat, Int.reducePow, Int.reduceAdd, Int.reduceMul, Int.reduceSub, Int.reduceNeg, Int.reduceEq, List.nil_append, List.cons_append, ↓r_keep, ↓r_isExc, ↓r_indexM, ↓r_lstL, ↓r_eqF, ↓r_neF, ↓r_eqM, ↓r_neM, ↓r_isiFr, ↓r_eqB, ↓r_neB, beq_self_eq_true, ↓r_cutO, ↓r_cutOL, ↓r_cutOP])
    refine ⟨(b, 1), q, n, rfl, fb, hq, zb, bq, by omega, ?_⟩
    (try simp only [↓r_wm1, ↓r_wm2, ↓r_wm3, ↓r_wm4, ↓r_forT, ↓r_forI, ↓r_fU0, ↓r_fU1, ↓r_turn, ↓r_yes, ↓r_ofrz, ↓r_oown, ↓r_w0, ↓r_w1, ↓r_w2, ↓r_w3, ↓r_w4, ↓r_lcT, ↓r_lcI, ↓r_lcR, ↓r_cU0, ↓r_cU1, ↓r_s0, ↓r_n0, ↓r_s1, ↓r_n1, ↓r_s2, ↓r_n2, ↓r_s3, ↓r_n3, ↓r_s4, ↓r_n4, ↓r_s5, ↓r_n5, ↓r_s6, ↓r_n6, ↓r_s7, ↓r_n7, ↓r_s8, ↓r_n8, ↓r_s9, ↓r_n9, ↓r_s10, ↓r_n10, ↓r_s11, ↓r_n11, ↓r_s12, ↓r_n12, ↓r_s13, ↓r_n13, ↓r_s14, ↓r_n14, ↓r_s15, ↓r_n15, ↓r_s16, ↓r_n16, ↓r_s17, ↓r_n17, ↓r_s18, ↓r_n18, ↓r_s19, ↓r_n19, ↓r_s20, ↓r_n20, ↓r_s21, ↓r_n21, ↓r_s22, ↓r_n22, ↓r_s23, ↓r_n23, ↓r_s24, ↓r_n24, ↓r_s25, ↓r_n25, ↓r_fr0, ↓r_fr1, ↓r_frL, ↓r_frN, ↓r_frNN, ↓r_max3, ↓r_seq, ↓r_next, ↓r_var0, ↓r_varS, ↓r_c, ↓r_op, ↓r_addI, ↓r_addS, ↓r_addT, ↓r_addL, ↓r_sub, ↓r_mul, ↓r_div, ↓r_mod, ↓r_pow, ↓r_lt, ↓r_le, ↓r_gt, ↓r_ge, ↓r_eqI, ↓r_neI, ↓r_isN, ↓r_isT, ↓r_isI, ↓r_isR, ↓r_inN, ↓r_inT, ↓r_inI, ↓r_ixT, ↓r_ixLs, ↓r_ixRo, ↓r_ixP, ↓r_at0, ↓r_at1, ↓r_at2, ↓r_at3, ↓r_neg, ↓r_negC, ↓r_b, ↓r_bl, ↓r_and, ↓r_or, ↓r_not, ↓r_andV, ↓r_orV, ↓r_notV, ↓r_bl', ↓r_if, ↓r_ifS, ↓r_asg, ↓r_name, ↓r_jnil, ↓r_jcons, ↓r_jtup, ↓r_jlst, ↓r_jlstP, ↓r_jsub, ↓r_jcut, ↓r_jcutP, ↓r_jcutA, ↓r_in2, ↓r_stP, ↓r_st0, ↓r_st1, ↓r_st2, ↓r_par, ↓r_ret, ↓r_retN, ↓r_drop, ↓r_brk, ↓r_cont, ↓r_raise, ↓r_nil, ↓r_cons, ↓r_tup, ↓r_lst, ↓r_new, ↓r_frz, ↓r_frzP, ↓r_cb, ↓r_call, ↓r_abs, ↓r_max, ↓r_min, ↓r_intI, ↓r_intB, ↓r_lenT, ↓r_lenL, ↓r_lenR, ↓r_lenP, ↓r_listL, ↓r_listR, ↓r_listOL, ↓r_tupleL, ↓r_tupleP, ↓r_isiII, ↓r_isiIB, ↓r_isiBI, ↓r_isiBB, ↓r_isiTT, ↓r_isiLL, ↓r_app, ↓r_appP, ↓r_clr, ↓r_clrP, ↓r_lstP, ↓r_cut, ↓r_onone, ↓r_osome, ↓r_int', ↓r_cutT, ↓r_cutLs, ↓r_cutP, ↓r_range1, ↓r_rg1, ↓rs0, ↓rsS, ↓ite_dec, ↓ite_ndec, ↓put_put, startD, List.length_cons, List.length_nil, and_assoc, and_true, true_and, and_self, or_self, or_false, false_or, or_true, true_or, decide_eq_true_eq, decide_true, decide_false, Bool.not_true, Bool.not_false, Bool.false_eq_true, if_true, if_false, ↓reduceIte, ne_eq, Nat.reduceLeDiff, Nat.reduceAdd, not_false_eq_true, not_true_eq_false, reduceCtorEq, Option.some.injEq, Int.reduceToNat, Int.reducePow, Int.reduceAdd, Int.reduceMul, Int.reduceSub, Int.reduceNeg, Int.reduceEq, List.nil_append, List.cons_append, ↓r_keep, ↓r_isExc, ↓r_indexM, ↓r_lstL, ↓r_eqF, ↓r_neF, ↓r_eqM, ↓r_neM, ↓r_isiFr, ↓r_eqB, ↓r_neB, beq_self_eq_true, ↓r_cutO, ↓r_cutOL, ↓r_cutOP])
    refine ⟨q, q, n, rfl, hq, hq, bq, bq, by omega, ?_⟩
    (try simp only [↓r_wm1, ↓r_wm2, ↓r_wm3, ↓r_wm4, ↓r_forT, ↓r_forI, ↓r_fU0, ↓r_fU1, ↓r_turn, ↓r_yes, ↓r_ofrz, ↓r_oown, ↓r_w0, ↓r_w1, ↓r_w2, ↓r_w3, ↓r_w4, ↓r_lcT, ↓r_lcI, ↓r_lcR, ↓r_cU0, ↓r_cU1, ↓r_s0, ↓r_n0, ↓r_s1, ↓r_n1, ↓r_s2, ↓r_n2, ↓r_s3, ↓r_n3, ↓r_s4, ↓r_n4, ↓r_s5, ↓r_n5, ↓r_s6, ↓r_n6, ↓r_s7, ↓r_n7, ↓r_s8, ↓r_n8, ↓r_s9, ↓r_n9, ↓r_s10, ↓r_n10, ↓r_s11, ↓r_n11, ↓r_s12, ↓r_n12, ↓r_s13, ↓r_n13, ↓r_s14, ↓r_n14, ↓r_s15, ↓r_n15, ↓r_s16, ↓r_n16, ↓r_s17, ↓r_n17, ↓r_s18, ↓r_n18, ↓r_s19, ↓r_n19, ↓r_s20, ↓r_n20, ↓r_s21, ↓r_n21, ↓r_s22, ↓r_n22, ↓r_s23, ↓r_n23, ↓r_s24, ↓r_n24, ↓r_s25, ↓r_n25, ↓r_fr0, ↓r_fr1, ↓r_frL, ↓r_frN, ↓r_frNN, ↓r_max3, ↓r_seq, ↓r_next, ↓r_var0, ↓r_varS, ↓r_c, ↓r_op, ↓r_addI, ↓r_addS, ↓r_addT, ↓r_addL, ↓r_sub, ↓r_mul, ↓r_div, ↓r_mod, ↓r_pow, ↓r_lt, ↓r_le, ↓r_gt, ↓r_ge, ↓r_eqI, ↓r_neI, ↓r_isN, ↓r_isT, ↓r_isI, ↓r_isR, ↓r_inN, ↓r_inT, ↓r_inI, ↓r_ixT, ↓r_ixLs, ↓r_ixRo, ↓r_ixP, ↓r_at0, ↓r_at1, ↓r_at2, ↓r_at3, ↓r_neg, ↓r_negC, ↓r_b, ↓r_bl, ↓r_and, ↓r_or, ↓r_not, ↓r_andV, ↓r_orV, ↓r_notV, ↓r_bl', ↓r_if, ↓r_ifS, ↓r_asg, ↓r_name, ↓r_jnil, ↓r_jcons, ↓r_jtup, ↓r_jlst, ↓r_jlstP, ↓r_jsub, ↓r_jcut, ↓r_jcutP, ↓r_jcutA, ↓r_in2, ↓r_stP, ↓r_st0, ↓r_st1, ↓r_st2, ↓r_par, ↓r_ret, ↓r_retN, ↓r_drop, ↓r_brk, ↓r_cont, ↓r_raise, ↓r_nil, ↓r_cons, ↓r_tup, ↓r_lst, ↓r_new, ↓r_frz, ↓r_frzP, ↓r_cb, ↓r_call, ↓r_abs, ↓r_max, ↓r_min, ↓r_intI, ↓r_intB, ↓r_lenT, ↓r_lenL, ↓r_lenR, ↓r_lenP, ↓r_listL, ↓r_listR, ↓r_listOL, ↓r_tupleL, ↓r_tupleP, ↓r_isiII, ↓r_isiIB, ↓r_isiBI, ↓r_isiBB, ↓r_isiTT, ↓r_isiLL, ↓r_app, ↓r_appP, ↓r_clr, ↓r_clrP, ↓r_lstP, ↓r_cut, ↓r_onone, ↓r_osome, ↓r_int', ↓r_cutT, ↓r_cutLs, ↓r_cutP, ↓r_range1, ↓r_rg1, ↓rs0, ↓rsS, ↓ite_dec, ↓ite_ndec, ↓put_put, startD, List.length_cons, List.length_nil, and_assoc, and_true, true_and, and_self, or_self, or_false, false_or, or_true, true_or, decide_eq_true_eq, decide_true, decide_false, Bool.not_true, Bool.not_false, Bool.false_eq_true, if_true, if_false, ↓reduceIte, ne_eq, Nat.reduceLeDiff, Nat.reduceAdd, not_false_eq_true, not_true_eq_false, reduceCtorEq, Option.some.injEq, Int.reduceToNat, Int.reducePow, Int.reduceAdd, Int.reduceMul, Int.reduceSub, Int.reduceNeg, Int.reduceEq, List.nil_append, List.cons_append, ↓r_keep, ↓r_isExc, ↓r_indexM, ↓r_lstL, ↓r_eqF, ↓r_neF, ↓r_eqM, ↓r_neM, ↓r_isiFr, ↓r_eqB, ↓r_neB, beq_self_eq_true, ↓r_cutO, ↓r_cutOL, ↓r_cutOP])
    refine ⟨(c, 1), _, n + n, rfl, fc, c3, zc.mono (by omega), b3, by omega, ?_⟩
    (try simp only [↓r_wm1, ↓r_wm2, ↓r_wm3, ↓r_wm4, ↓r_forT, ↓r_forI, ↓r_fU0, ↓r_fU1, ↓r_turn, ↓r_yes, ↓r_ofrz, ↓r_oown, ↓r_w0, ↓r_w1, ↓r_w2, ↓r_w3, ↓r_w4, ↓r_lcT, ↓r_lcI, ↓r_lcR, ↓r_cU0, ↓r_cU1, ↓r_s0, ↓r_n0, ↓r_s1, ↓r_n1, ↓r_s2, ↓r_n2, ↓r_s3, ↓r_n3, ↓r_s4, ↓r_n4, ↓r_s5, ↓r_n5, ↓r_s6, ↓r_n6, ↓r_s7, ↓r_n7, ↓r_s8, ↓r_n8, ↓r_s9, ↓r_n9, ↓r_s10, ↓r_n10, ↓r_s11, ↓r_n11, ↓r_s12, ↓r_n12, ↓r_s13, ↓r_n13, ↓r_s14, ↓r_n14, ↓r_s15, ↓r_n15, ↓r_s16, ↓r_n16, ↓r_s17, ↓r_n17, ↓r_s18, ↓r_n18, ↓r_s19, ↓r_n19, ↓r_s20, ↓r_n20, ↓r_s21, ↓r_n21, ↓r_s22, ↓r_n22, ↓r_s23, ↓r_n23, ↓r_s24, ↓r_n24, ↓r_s25, ↓r_n25, ↓r_fr0, ↓r_fr1, ↓r_frL, ↓r_frN, ↓r_frNN, ↓r_max3, ↓r_seq, ↓r_next, ↓r_var0, ↓r_varS, ↓r_c, ↓r_op, ↓r_addI, ↓r_addS, ↓r_addT, ↓r_addL, ↓r_sub, ↓r_mul, ↓r_div, ↓r_mod, ↓r_pow, ↓r_lt, ↓r_le, ↓r_gt, ↓r_ge, ↓r_eqI, ↓r_neI, ↓r_isN, ↓r_isT, ↓r_isI, ↓r_isR, ↓r_inN, ↓r_inT, ↓r_inI, ↓r_ixT, ↓r_ixLs, ↓r_ixRo, ↓r_ixP, ↓r_at0, ↓r_at1, ↓r_at2, ↓r_at3, ↓r_neg, ↓r_negC, ↓r_b, ↓r_bl, ↓r_and, ↓r_or, ↓r_not, ↓r_andV, ↓r_orV, ↓r_notV, ↓r_bl', ↓r_if, ↓r_ifS, ↓r_asg, ↓r_name, ↓r_jnil, ↓r_jcons, ↓r_jtup, ↓r_jlst, ↓r_jlstP, ↓r_jsub, ↓r_jcut, ↓r_jcutP, ↓r_jcutA, ↓r_in2, ↓r_stP, ↓r_st0, ↓r_st1, ↓r_st2, ↓r_par, ↓r_ret, ↓r_retN, ↓r_drop, ↓r_brk, ↓r_cont, ↓r_raise, ↓r_nil, ↓r_cons, ↓r_tup, ↓r_lst, ↓r_new, ↓r_frz, ↓r_frzP, ↓r_cb, ↓r_call, ↓r_abs, ↓r_max, ↓r_min, ↓r_intI, ↓r_intB, ↓r_lenT, ↓r_lenL, ↓r_lenR, ↓r_lenP, ↓r_listL, ↓r_listR, ↓r_listOL, ↓r_tupleL, ↓r_tupleP, ↓r_isiII, ↓r_isiIB, ↓r_isiBI, ↓r_isiBB, ↓r_isiTT, ↓r_isiLL, ↓r_app, ↓r_appP, ↓r_clr, ↓r_clrP, ↓r_lstP, ↓r_cut, ↓r_onone, ↓r_osome, ↓r_int', ↓r_cutT, ↓r_cutLs, ↓r_cutP, ↓r_range1, ↓r_rg1, ↓rs0, ↓rsS, ↓ite_dec, ↓ite_ndec, ↓put_put, startD, List.length_cons, List.length_nil, and_assoc, and_true, true_and, and_self, or_self, or_false, false_or, or_true, true_or, decide_eq_true_eq, decide_true, decide_false, Bool.not_true, Bool.not_false, Bool.false_eq_true, if_true, if_false, ↓reduceIte, ne_eq, Nat.reduceLeDiff, Nat.reduceAdd, not_false_eq_true, not_true_eq_false, reduceCtorEq, Option.some.injEq, Int.reduceToNat, Int.reducePow, Int.reduceAdd, Int.reduceMul, Int.reduceSub, Int.reduceNeg, Int.reduceEq, List.nil_append, List.cons_append, ↓r_keep, ↓r_isExc, ↓r_indexM, ↓r_lstL, ↓r_eqF, ↓r_neF, ↓r_eqM, ↓r_neM, ↓r_isiFr, ↓r_eqB, ↓r_neB, beq_self_eq_true, ↓r_cutO, ↓r_cutOL, ↓r_cutOP])
    exact ⟨grwC a b c q, _, 3 * n + 1, rfl, ok, ha, by omega, h⟩
def pr_moved_by : DSp := fun ds μ P _ => ∃ (m : Mom) (q : Int × Int) (n : Nat), ds = [m.d, fr q] ∧ m.Ok n ∧ Fr q ∧ FB n q ∧ n ≤ 600 ∧ P (movM m q).d μ
theorem len_moved_by : ∀ ds μ P PX, pr_moved_by ds μ P PX → ds.length = (["moment", "by"] : List Str).length := by
  rintro ds μ P PX ⟨m, q, n, rfl, _⟩
  rfl
theorem ok_moved_by {P : Program} {w : World} {K : PySem.W.Frag} {mg : Str → Option Value} {base : Heap} {f : Addr} {fd : FuncData} (F : Fun K "moved_by" "moved_by" s_moved_by f fd)
    (d_is_root : Df P w K mg base "is_root" ["moment"] 1 pr_is_root)
    (d_plus : Df P w K mg base "plus" ["one", "two"] 3 pr_plus)
    (d_fractions_of : Df P w K mg base "fractions_of" ["numbers"] 1 pr_fractions_of)
    (d_minus : Df P w K mg base "minus" ["one", "two"] 3 pr_minus)
    (d_times : Df P w K mg base "times" ["one", "two"] 3 pr_times)
    (d_told_root : Df P w K mg base "told_root" ["curve", "side"] 3 pr_told_root)
    (d_worth_at : Df P w K mg base "worth_at" ["curve", "x"] 4 pr_worth_at)
    (c_NOUGHT : CG K mg "NOUGHT" cv_NOUGHT) : FnOk P w K mg base (L2.CX P w) 5 f fd ["moment", "by"] (spD K pr_moved_by) := by
  have nd := sc_moved_by.nd
  refine fn_D (k := 4) F sc_moved_by len_moved_by (by decide) (fun cdv A outer s H E PX hr tk hp => ⟨_, (sd_cons (sd_if (pt_n (pt_b (pd_call d_is_root tk hr (by rfl) (da_cons (vr 0) da_nil))))
       (sd_one (sd_ret (pd_call d_plus tk hr (by rfl) (da_cons (vr 0) (da_cons (vr 1) da_nil)))))
       sd_nil)
      (sd_cons (sd_asg (pd_call d_fractions_of tk hr (by rfl) (da_cons (pd_cut (vr 0) do_none (do_some pd_int)) da_nil)) (gd_tup (n := 3) rfl (gd_cons (gd_name 2 nd) (gd_cons (gd_name 3 nd) (gd_cons (gd_name 4 nd) gd_nil)))))
      (sd_cons (sd_set 5 nd (pd_call d_minus tk hr (by rfl) (da_cons (vr 3) (da_cons (pd_call d_times tk hr (by rfl) (da_cons (pd_tup (da_cons pd_int (da_cons pd_int da_nil))) (da_cons (pd_call d_times tk hr (by rfl) (da_cons (vr 2) (da_cons (vr 1) da_nil))) da_nil))) da_nil))))
      (sd_one (sd_ret (pd_call d_told_root tk hr (by rfl) (da_cons (pd_tup (da_cons (vr 2) (da_cons (vr 5) (da_cons (pd_call d_worth_at tk hr (by rfl) (da_cons (pd_tup (da_cons (vr 2) (da_cons (pd_call d_minus tk hr (by rfl) (da_cons (pd_const (by rfl) c_NOUGHT) (da_cons (vr 3) da_nil))) (da_cons (vr 4) da_nil)))) (da_cons (vr 1) da_nil))) da_nil)))) (da_cons (pd_ix (vr 0) pd_int) da_nil))))))))⟩) ?_
  rintro ds μ P PX ⟨m, q, n, rfl, hm, hq, bq, hn, h⟩
  (try simp only [↓r_wm1, ↓r_wm2, ↓r_wm3, ↓r_wm4, ↓r_forT, ↓r_forI, ↓r_fU0, ↓r_fU1, ↓r_turn, ↓r_yes, ↓r_ofrz, ↓r_oown, ↓r_w0, ↓r_w1, ↓r_w2, ↓r_w3, ↓r_w4, ↓r_lcT, ↓r_lcI, ↓r_lcR, ↓r_cU0, ↓r_cU1, ↓r_s0, ↓r_n0, ↓r_s1, ↓r_n1, ↓r_s2, ↓r_n2, ↓r_s3, ↓r_n3, ↓r_s4, ↓r_n4, ↓r_s5, ↓r_n5, ↓r_s6, ↓r_n6, ↓r_s7, ↓r_n7, ↓r_s8, ↓r_n8, ↓r_s9, ↓r_n9, ↓r_s10, ↓r_n10, ↓r_s11, ↓r_n11, ↓r_s12, ↓r_n12, ↓r_s13, ↓r_n13, ↓r_s14, ↓r_n14, ↓r_s15, ↓r_n15, ↓r_s16, ↓r_n16, ↓r_s17, ↓r_n17, ↓r_s18, ↓r_n18, ↓r_s19, ↓r_n19, ↓r_s20, ↓r_n20, ↓r_s21, ↓r_n21, ↓r_s22, ↓r_n22, ↓r_s23, ↓r_n23, ↓r_s24, ↓r_n24, ↓r_s25, ↓r_n25, ↓r_fr0, ↓r_fr1, ↓r_frL, ↓r_frN, ↓r_frNN, ↓r_max3, ↓r_seq, ↓r_next, ↓r_var0, ↓r_varS, ↓r_c, ↓r_op, ↓r_addI, ↓r_addS, ↓r_addT, ↓r_addL, ↓r_sub, ↓r_mul, ↓r_div, ↓r_mod, ↓r_pow, ↓r_lt, ↓r_le, ↓r_gt, ↓r_ge, ↓r_eqI, ↓r_neI, ↓r_isN, ↓r_isT, ↓r_isI, ↓r_isR, ↓r_inN, ↓r_inT, ↓r_inI, ↓r_ixT, ↓r_ixLs, ↓r_ixRo, ↓r_ixP, ↓r_at0, ↓r_at1, ↓r_at2, ↓r_at3, ↓r_neg, ↓r_negC, ↓r_b, ↓r_bl, ↓r_and, ↓r_or, ↓r_not, ↓r_andV, ↓r_orV, ↓r_notV, ↓r_bl', ↓r_if, ↓r_ifS, ↓r_asg, ↓r_name, ↓r_jnil, ↓r_jcons, ↓r_jtup, ↓r_jlst, ↓r_jlstP, ↓r_jsub, ↓r_jcut, ↓r_jcutP, ↓r_jcutA, ↓r_in2, ↓r_stP, ↓r_st0, ↓r_st1, ↓r_st2, ↓r_par, ↓r_ret, ↓r_retN, ↓r_drop, ↓r_brk, ↓r_cont, ↓r_raise, ↓r_nil, ↓r_cons, ↓r_tup, ↓r_lst, ↓r_new, ↓r_frz, ↓r_frzP, ↓r_cb, ↓r_call, ↓r_abs, ↓r_max, ↓r_min, ↓r_intI, ↓r_intB, ↓r_lenT, ↓r_lenL, ↓r_lenR, ↓r_lenP, ↓r_listL, ↓r_listR, ↓r_listOL, ↓r_tupleL, ↓r_tupleP, ↓r_isiII, ↓r_isiIB, ↓r_isiBI, ↓r_isiBB, ↓r_isiTT, ↓r_isiLL, ↓r_app, ↓r_appP, ↓r_clr, ↓r_clrP, ↓r_lstP, ↓r_cut, ↓r_onone, ↓r_osome, ↓r_int', ↓r_cutT, ↓r_cutLs, ↓r_cutP, ↓r_range1, ↓r_rg1, ↓rs0, ↓rsS, ↓ite_dec, ↓ite_ndec, ↓put_put, startD, List.length_cons, List.length_nil, and_assoc, and_true, true_and, and_self, or_self, or_false, false_or, or_true, true_or, decide_eq_true_eq, decide_true, decide_false, Bool.not_true, Bool.not_false, Bool.false_eq_true, if_true, if_false, ↓reduceIte, ne_eq, Nat.reduceLeDiff, Nat.reduceAdd, not_false_eq_true, not_true_eq_false, reduceCtorEq, Option.some.injEq, Int.reduceToNat, Int.reducePow, Int.reduceAdd, Int.reduceMul, Int.reduceSub, Int.reduceNeg, Int.reduceEq, List.nil_append, List.cons_append, ↓r_keep, ↓r_isExc, ↓r_indexM, ↓r_lstL, ↓r_eqF, ↓r_neF, ↓r_eqM, ↓r_neM, ↓r_isiFr, ↓r_eqB, ↓r_neB, beq_self_eq_true, ↓r_cutO, ↓r_cutOL, ↓r_cutOP])
  refine ⟨m, rfl, ?_⟩
  cases m with
  | q x =>
    (try simp only [↓r_wm1, ↓r_wm2, ↓r_wm3, ↓r_wm4, ↓r_forT, ↓r_forI, ↓r_fU0, ↓r_fU1, ↓r_turn, ↓r_yes, ↓r_ofrz, ↓r_oown, ↓r_w0, ↓r_w1, ↓r_w2, ↓r_w3, ↓r_w4, ↓r_lcT, ↓r_lcI, ↓r_lcR, ↓r_cU0, ↓r_cU1, ↓r_s0, ↓r_n0, ↓r_s1, ↓r_n1, ↓r_s2, ↓r_n2, ↓r_s3, ↓r_n3, ↓r_s4, ↓r_n4, ↓r_s5, ↓r_n5, ↓r_s6, ↓r_n6, ↓r_s7, ↓r_n7, ↓r_s8, ↓r_n8, ↓r_s9, ↓r_n9, ↓r_s10, ↓r_n10, ↓r_s11, ↓r_n11, ↓r_s12, ↓r_n12, ↓r_s13, ↓r_n13, ↓r_s14, ↓r_n14, ↓r_s15, ↓r_n15, ↓r_s16, ↓r_n16, ↓r_s17, ↓r_n17, ↓r_s18, ↓r_n18, ↓r_s19, ↓r_n19, ↓r_s20, ↓r_n20, ↓r_s21, ↓r_n21, ↓r_s22, ↓r_n22, ↓r_s23, ↓r_n23, ↓r_s24, ↓r_n24, ↓r_s25, ↓r_n25, ↓r_fr0, ↓r_fr1, ↓r_frL, ↓r_frN, ↓r_frNN, ↓r_max3, ↓r_seq, ↓r_next, ↓r_var0, ↓r_varS, ↓r_c, ↓r_op, ↓r_addI, ↓r_addS, ↓r_addT, ↓r_addL, ↓r_sub, ↓r_mul, ↓r_div, ↓r_mod, ↓r_pow, ↓r_lt, ↓r_le, ↓r_gt, ↓r_ge, ↓r_eqI, ↓r_neI, ↓r_isN, ↓r_isT, ↓r_isI, ↓r_isR, ↓r_inN, ↓r_inT, ↓r_inI, ↓r_ixT, ↓r_ixLs, ↓r_ixRo, ↓r_ixP, ↓r_at0, ↓r_at1, ↓r_at2, ↓r_at3, ↓r_neg, ↓r_negC, ↓r_b, ↓r_bl, ↓r_and, ↓r_or, ↓r_not, ↓r_andV, ↓r_orV, ↓r_notV, ↓r_bl', ↓r_if, ↓r_ifS, ↓r_asg, ↓r_name, ↓r_jnil, ↓r_jcons, ↓r_jtup, ↓r_jlst, ↓r_jlstP, ↓r_jsub, ↓r_jcut, ↓r_jcutP, ↓r_jcutA, ↓r_in2, ↓r_stP, ↓r_st0, ↓r_st1, ↓r_st2, ↓r_par, ↓r_ret, ↓r_retN, ↓r_drop, ↓r_brk, ↓r_cont, ↓r_raise, ↓r_nil, ↓r_cons, ↓r_tup, ↓r_lst, ↓r_new, ↓r_frz, ↓r_frzP, ↓r_cb, ↓r_call, ↓r_abs, ↓r_max, ↓r_min, ↓r_intI, ↓r_intB, ↓r_lenT, ↓r_lenL, ↓r_lenR, ↓r_lenP, ↓r_listL, ↓r_listR, ↓r_listOL, ↓r_tupleL, ↓r_tupleP, ↓r_isiII, ↓r_isiIB, ↓r_isiBI, ↓r_isiBB, ↓r_isiTT, ↓r_isiLL, ↓r_app, ↓r_appP, ↓r_clr, ↓r_clrP, ↓r_lstP, ↓r_cut, ↓r_onone, ↓r_osome, ↓r_int', ↓r_cutT, ↓r_cutLs, ↓r_cutP, ↓r_range1, ↓r_rg1, ↓rs0, ↓rsS, ↓ite_dec, ↓ite_ndec, ↓put_put, startD, List.length_cons, List.length_nil, and_assoc, and_true, true_and, and_self, or_self, or_false, false_or, or_true, true_or, decide_eq_true_eq, decide_true, decide_false, Bool.not_true, Bool.not_false, Bool.false_eq_true, if_true, if_false, ↓reduceIte, ne_eq, Nat.reduceLeDiff, Nat.reduceAdd, not_false_eq_true, not_true_eq_false, reduceCtorEq, Option.some.injEq, Int.reduceToNat, Int.reducePow, Int.reduceAdd, Int.reduceMul, Int.reduceSub, Int.reduceNeg, Int.reduceEq, List.nil_append, List.cons_append, ↓r_keep, ↓r_isExc, ↓r_indexM, ↓r_lstL, ↓r_eqF, ↓r_neF, ↓r_eqM, ↓r_neM, ↓r_isiFr, ↓r_eqB, ↓r_neB, beq_self_eq_true, ↓r_cutO, ↓r_cutOL, ↓r_cutOP])
    exact ⟨x, q, n, rfl, hm.1, hq, hm.2, bq, by omega, h⟩
  | r a b c s =>
    obtain ⟨ha, ba, bb, bc, hs⟩ := hm
    have fa := fr_int a
    have fb := fr_int b
    have fc := fr_int c
    have f2 := fr_int 2
    have f0 := fr_int 0
    unfold ofInt at fa fb fc f2 f0
    have o1 := one_bd ha ba
    have n2 : 2 ≤ n + 2 := by omega
    have o2 : FB (n + 2) (2, 1) := ⟨(show Bd 2 2 by decide).mono n2, o1.mono (by omega)⟩
    have za : FB n (a, 1) := ⟨ba, o1⟩
    have zb : FB n (b, 1) := ⟨bb, o1⟩
    have zc : FB n (c, 1) := ⟨bc, o1⟩
    have z0 : FB n (0, 1) := ⟨o1.le (by decide), o1⟩
    have c1 := fmul_can fa hq
    have b1 := fmul_bd fa hq za bq
    have c2 := fmul_can f2 c1
    have b2 := fmul_bd f2 c1 o2 b1
    have c4 := fsub_can f0 fb
    have e4 : fsub (0, 1) (b, 1) = (0 - b, 1) := fsub_zero fb
    have b4 : FB n (fsub (0, 1) (b, 1)) := by rw [e4]; exact ⟨bb.le (by omega), o1⟩
    have e3 : cutL [D.int a, .int b, .int c, .int s] none (some 3) = [.int a, .int b, .int c] := rfl
    simp only [Mom.d]
    (try simp only [↓r_wm1, ↓r_wm2, ↓r_wm3, ↓r_wm4, ↓r_forT, ↓r_forI, ↓r_fU0, ↓r_fU1, ↓r_turn, ↓r_yes, ↓r_ofrz, ↓r_oown, ↓r_w0, ↓r_w1, ↓r_w2, ↓r_w3, ↓r_w4, ↓r_lcT, ↓r_lcI, ↓r_lcR, ↓r_cU0, ↓r_cU1, ↓r_s0, ↓r_n0, ↓r_s1, ↓r_n1, ↓r_s2, ↓r_n2, ↓r_s3, ↓r_n3, ↓r_s4, ↓r_n4, ↓r_s5, ↓r_n5, ↓r_s6, ↓r_n6, ↓r_s7, ↓r_n7, ↓r_s8, ↓r_n8, ↓r_s9, ↓r_n9, ↓r_s10, ↓r_n10, ↓r_s11, ↓r_n11, ↓r_s12, ↓r_n12, ↓r_s13, ↓r_n13, ↓r_s14, ↓r_n14, ↓r_s15, ↓r_n15, ↓r_s16, ↓r_n16, ↓r_s17, ↓r_n17, ↓r_s18, ↓r_n18, ↓r_s19, ↓r_n19, ↓r_s20, ↓r_n20, ↓r_s21, ↓r_n21, ↓r_s22, ↓r_n22, ↓r_s23, ↓r_n23, ↓r_s24, ↓r_n24, ↓r_s25, ↓r_n25, ↓r_fr0, ↓r_fr1, ↓r_frL, ↓r_frN, ↓r_frNN, ↓r_max3, ↓r_seq, ↓r_next, ↓r_var0, ↓r_varS, ↓r_c, ↓r_op, ↓r_addI, ↓r_addS, ↓r_addT, ↓r_addL, ↓r_sub, ↓r_mul, ↓r_div, ↓r_mod, ↓r_pow, ↓r_lt, ↓r_le, ↓r_gt, ↓r_ge, ↓r_eqI, ↓r_neI, ↓r_isN, ↓r_isT, ↓r_isI, ↓r_isR, ↓r_inN, ↓r_inT, ↓r_inI, ↓r_ixT, ↓r_ixLs, ↓r_ixRo, ↓r_ixP, ↓r_at0, ↓r_at1, ↓r_at2, ↓r_at3, ↓r_neg, ↓r_negC, ↓r_b, ↓r_bl, ↓r_and, ↓r_or, ↓r_not, ↓r_andV, ↓r_orV, ↓r_notV, ↓r_bl', ↓r_if, ↓r_ifS, ↓r_asg, ↓r_name, ↓r_jnil, ↓r_jcons, ↓r_jtup, ↓r_jlst, ↓r_jlstP, ↓r_jsub, ↓r_jcut, ↓r_jcutP, ↓r_jcutA, ↓r_in2, ↓r_stP, ↓r_st0, ↓r_st1, ↓r_st2, ↓r_par, ↓r_ret, ↓r_retN, ↓r_drop, ↓r_brk, ↓r_cont, ↓r_raise, ↓r_nil, ↓r_cons, ↓r_tup, ↓r_lst, ↓r_new, ↓r_frz, ↓r_frzP, ↓r_cb, ↓r_call, ↓r_abs, ↓r_max, ↓r_min, ↓r_intI, ↓r_intB, ↓r_lenT, ↓r_lenL, ↓r_lenR, ↓r_lenP, ↓r_listL, ↓r_listR, ↓r_listOL, ↓r_tupleL, ↓r_tupleP, ↓r_isiII, ↓r_isiIB, ↓r_isiBI, ↓r_isiBB, ↓r_isiTT, ↓r_isiLL, ↓r_app, ↓r_appP, ↓r_clr, ↓r_clrP, ↓r_lstP, ↓r_cut, ↓r_onone, ↓r_osome, ↓r_int', ↓r_cutT, ↓r_cutLs, ↓r_cutP, ↓r_range1, ↓r_rg1, ↓rs0, ↓rsS, ↓ite_dec, ↓ite_ndec, ↓put_put, startD, List.length_cons, List.length_nil, and_assoc, and_true, true_and, and_self, or_self, or_false, false_or, or_true, true_or, decide_eq_true_eq, decide_true, decide_false, Bool.not_true, Bool.not_false, Bool.false_eq_true, if_true, if_false, ↓reduceIte, ne_eq, Nat.reduceLeDiff, Nat.reduceAdd, not_false_eq_true, not_true_eq_false, reduceCtorEq, Option.some.injEq, Int.reduceToNat, Int.reducePow, Int.reduceAdd, Int.reduceMul, Int.reduceSub, Int.reduceNeg, Int.reduceEq, List.nil_append, List.cons_append, ↓r_keep, ↓r_isExc, ↓r_indexM, ↓r_lstL, ↓r_eqF, ↓r_neF, ↓r_eqM, ↓r_neM, ↓r_isiFr, ↓r_eqB, ↓r_neB, beq_self_eq_true, ↓r_cutO, ↓r_cutOL, ↓r_cutOP])
    refine ⟨by decide, ?_⟩
    rw [e3]
    refine ⟨_, _, _, rfl, ?_⟩
    (try simp only [↓r_wm1, ↓r_wm2, ↓r_wm3, ↓r_wm4, ↓r_forT, ↓r_forI, ↓r_fU0, ↓r_fU1, ↓r_turn, ↓r_yes, ↓r_ofrz, ↓r_oown, ↓r_w0, ↓r_w1, ↓r_w2, ↓r_w3, ↓r_w4, ↓r_lcT, ↓r_lcI, ↓r_lcR, ↓r_cU0, ↓r_cU1, ↓r_s0, ↓r_n0, ↓r_s1, ↓r_n1, ↓r_s2, ↓r_n2, ↓r_s3, ↓r_n3, ↓r_s4, ↓r_n4, ↓r_s5, ↓r_n5, ↓r_s6, ↓r_n6, ↓r_s7, ↓r_n7, ↓r_s8, ↓r_n8, ↓r_s9, ↓r_n9, ↓r_s10, ↓r_n10, ↓r_s11, ↓r_n11, ↓r_s12, ↓r_n12, ↓r_s13, ↓r_n13, ↓r_s14, ↓r_n14, ↓r_s15, ↓r_n15, ↓r_s16, ↓r_n16, ↓r_s17, ↓r_n17, ↓r_s18, ↓r_n18, ↓r_s19, ↓r_n19, ↓r_s20, ↓r_n20, ↓r_s21, ↓r_n21, ↓r_s22, ↓r_n22, ↓r_s23, ↓r_n23, ↓r_s24, ↓r_n24, ↓r_s25, ↓r_n25, ↓r_fr0, ↓r_fr1, ↓r_frL, ↓r_frN, ↓r_frNN, ↓r_max3, ↓r_seq, ↓r_next, ↓r_var0, ↓r_varS, ↓r_c, ↓r_op, ↓r_addI, ↓r_addS, ↓r_addT, ↓r_addL, ↓r_sub, ↓r_mul, ↓r_div, ↓r_mod, ↓r_pow, ↓r_lt, ↓r_le, ↓r_gt, ↓r_ge, ↓r_eqI, ↓r_neI, ↓r_isN, ↓r_isT, ↓r_isI, ↓r_isR, ↓r_inN, ↓r_inT, ↓r_inI, ↓r_ixT, ↓r_ixLs, ↓r_ixRo, ↓r_ixP, ↓r_at0, ↓r_at1, ↓r_at2, ↓r_at3, ↓r_neg, ↓r_negC, ↓r_b, ↓r_bl, ↓r_and, ↓r_or, ↓r_not, ↓r_andV, ↓r_orV, ↓r_notV, ↓r_bl', ↓r_if, ↓r_ifS, ↓r_asg, ↓r_name, ↓r_jnil, ↓r_jcons, ↓r_jtup, ↓r_jlst, ↓r_jlstP, ↓r_jsub, ↓r_jcut, ↓r_jcutP, ↓r_jcutA, ↓r_in2, ↓r_stP, ↓r_st0, ↓r_st1, ↓r_st2, ↓r_par, ↓r_ret, ↓r_retN, ↓r_drop, ↓r_brk, ↓r_cont, ↓r_raise, ↓r_nil, ↓r_cons, ↓r_tup, ↓r_lst, ↓r_new, ↓r_frz, ↓r_frzP, ↓r_cb, ↓r_call, ↓r_abs, ↓r_max, ↓r_min, ↓r_intI, ↓r_intB, ↓r_lenT, ↓r_lenL, ↓r_lenR, ↓r_lenP, ↓r_listL, ↓r_listR, ↓r_listOL, ↓r_tupleL, ↓r_tupleP, ↓r_isiII, ↓r_isiIB, ↓r_isiBI, ↓r_isiBB, ↓r_isiTT, ↓r_isiLL, ↓r_app, ↓r_appP, ↓r_clr, ↓r_clrP, ↓r_lstP, ↓r_cut, ↓r_onone, ↓r_osome, ↓r_int', ↓r_cutT, ↓r_cutLs, ↓r_cutP, ↓r_range1, ↓r_rg1, ↓rs0, ↓rsS, ↓ite_dec, ↓ite_ndec, ↓put_put, startD, List.length_cons, List.length_nil, and_assoc, and_true, true_and, and_self, or_self, or_false, false_or, or_true, true_or, decide_eq_true_eq, decide_true, decide_false, Bool.not_true, Bool.not_false, Bool.false_eq_true, if_true, if_false, ↓reduceIte, ne_eq, Nat.reduceLeDiff, Nat.reduceAdd, not_false_eq_true, not_true_eq_false, reduceCtorEq, Option.some.injEq, Int.reduceToNat, Int.reducePow, Int.reduceAdd, Int.reduceMul, Int.reduceSub, Int.reduceNeg, Int.reduceEq, List.nil_append, List.cons_append, ↓r_keep, ↓r_isExc, ↓r_indexM, ↓r_lstL, ↓r_eqF, ↓r_neF, ↓r_eqM, ↓r_neM, ↓r_isiFr, ↓r_eqB, ↓r_neB, beq_self_eq_true, ↓r_cutO, ↓r_cutOL, ↓r_cutOP])
    refine ⟨(a, 1), q, n, rfl, fa, hq, za, bq, by omega, ?_⟩
    (try simp only [↓r_wm1, ↓r_wm2, ↓r_wm3, ↓r_wm4, ↓r_forT, ↓r_forI, ↓r_fU0, ↓r_fU1, ↓r_turn, ↓r_yes, ↓r_ofrz, ↓r_oown, ↓r_w0, ↓r_w1, ↓r_w2, ↓r_w3, ↓r_w4, ↓r_lcT, ↓r_lcI, ↓r_lcR, ↓r_cU0, ↓r_cU1, ↓r_s0, ↓r_n0, ↓r_s1, ↓r_n1, ↓r_s2, ↓r_n2, ↓r_s3, ↓r_n3, ↓r_s4, ↓r_n4, ↓r_s5, ↓r_n5, ↓r_s6, ↓r_n6, ↓r_s7, ↓r_n7, ↓r_s8, ↓r_n8, ↓r_s9, ↓r_n9, ↓r_s10, ↓r_n10, ↓r_s11, ↓r_n11, ↓r_s12, ↓r_n12, ↓r_s13, ↓r_n13, ↓r_s14, ↓r_n14, ↓r_s15, ↓r_n15, ↓r_s16, ↓r_n16, ↓r_s17, ↓r_n17, ↓r_s18, ↓r_n18, ↓r_s19, ↓r_n19, ↓r_s20, ↓r_n20, ↓r_s21, ↓r_n21, ↓r_s22, ↓r_n22, ↓r_s23, ↓r_n23, ↓r_s24, ↓r_n24, ↓r_s25, ↓r_n25, ↓r_fr0, ↓r_fr1, ↓r_frL, ↓r_frN, ↓r_frNN, ↓r_max3, ↓r_seq, ↓r_next, ↓r_var0, ↓r_varS, ↓r_c, ↓r_op, ↓r_addI, ↓r_addS, ↓r_addT, ↓r_addL, ↓r_sub, ↓r_mul, ↓r_div, ↓r_mod, ↓r_pow, ↓r_lt, ↓r_le, ↓r_gt, ↓r_ge, ↓r_eqI, ↓r_neI, ↓r_isN, ↓r_isT, ↓r_isI, ↓r_isR, ↓r_inN, ↓r_inT, ↓r_inI, ↓r_ixT, ↓r_ixLs, ↓r_ixRo, ↓r_ixP, ↓r_at0, ↓r_at1, ↓r_at2, ↓r_at3, ↓r_neg, ↓r_negC, ↓r_b, ↓r_bl, ↓r_and, ↓r_or, ↓r_not, ↓r_andV, ↓r_orV, ↓r_notV, ↓r_bl', ↓r_if, ↓r_ifS, ↓r_asg, ↓r_name, ↓r_jnil, ↓r_jcons, ↓r_jtup, ↓r_jlst, ↓r_jlstP, ↓r_jsub, ↓r_jcut, ↓r_jcutP, ↓r_jcutA, ↓r_in2, ↓r_stP, ↓r_st0, ↓r_st1, ↓r_st2, ↓r_par, ↓r_ret, ↓r_retN, ↓r_drop, ↓r_brk, ↓r_cont, ↓r_raise, ↓r_nil, ↓r_cons, ↓r_tup, ↓r_lst, ↓r_new, ↓r_frz, ↓r_frzP, ↓r_cb, ↓r_call, ↓r_abs, ↓r_max, ↓r_min, ↓r_intI, ↓r_intB, ↓r_lenT, ↓r_lenL, ↓r_lenR, ↓r_lenP, ↓r_listL, ↓r_listR, ↓r_listOL, ↓r_tupleL, ↓r_tupleP, ↓r_isiII, ↓r_isiIB, ↓r_isiBI, ↓r_isiBB, ↓r_isiTT, ↓r_isiLL, ↓r_app, ↓r_appP, ↓r_clr, ↓r_clrP, ↓r_lstP, ↓r_cut, ↓r_onone, ↓r_osome, ↓r_int', ↓r_cutT, ↓r_cutLs, ↓r_cutP, ↓r_range1, ↓r_rg1, ↓rs0, ↓rsS, ↓ite_dec, ↓ite_ndec, ↓put_put, startD, List.length_cons, List.length_nil, and_assoc, and_true, true_and, and_self, or_self, or_false, false_or, or_true, true_or, decide_eq_true_eq, decide_true, decide_false, Bool.not_true, Bool.not_false, Bool.false_eq_true, if_true, if_false, ↓reduceIte, ne_eq, Nat.reduceLeDiff, Nat.reduceAdd, not_false_eq_true, not_true_eq_false, reduceCtorEq, Option.some.injEq, Int.reduceToNat, Int.reducePow, Int.reduceAdd, Int.reduceMul, Int.reduceSub, Int.reduceNeg, Int.reduceEq, List.nil_append, List.cons_append, ↓r_keep, ↓r_isExc, ↓r_indexM, ↓r_lstL, ↓r_eqF, ↓r_neF, ↓r_eqM, ↓r_neM, ↓r_isiFr, ↓r_eqB, ↓r_neB, beq_self_eq_true, ↓r_cutO, ↓r_cutOL, ↓r_cutOP])
    refine ⟨(2, 1), _, n + n + 2, rfl, f2, c1, o2.mono (by omega), b1.mono (by omega), by omega, ?_⟩
    (try simp only [↓r_wm1, ↓r_wm2, ↓r_wm3, ↓r_wm4, ↓r_forT, ↓r_forI, ↓r_fU0, ↓r_fU1, ↓r_turn, ↓r_yes, ↓r_ofrz, ↓r_oown, ↓r_w0, ↓r_w1, ↓r_w2, ↓r_w3, ↓r_w4, ↓r_lcT, ↓r_lcI, ↓r_lcR, ↓r_cU0, ↓r_cU1, ↓r_s0, ↓r_n0, ↓r_s1, ↓r_n1, ↓r_s2, ↓r_n2, ↓r_s3, ↓r_n3, ↓r_s4, ↓r_n4, ↓r_s5, ↓r_n5, ↓r_s6, ↓r_n6, ↓r_s7, ↓r_n7, ↓r_s8, ↓r_n8, ↓r_s9, ↓r_n9, ↓r_s10, ↓r_n10, ↓r_s11, ↓r_n11, ↓r_s12, ↓r_n12, ↓r_s13, ↓r_n13, ↓r_s14, ↓r_n14, ↓r_s15, ↓r_n15, ↓r_s16, ↓r_n16, ↓r_s17, ↓r_n17, ↓r_s18, ↓r_n18, ↓r_s19, ↓r_n19, ↓r_s20, ↓r_n20, ↓r_s21, ↓r_n21, ↓r_s22, ↓r_n22, ↓r_s23, ↓r_n23, ↓r_s24, ↓r_n24, ↓r_s25, ↓r_n25, ↓r_fr0, ↓r_fr1, ↓r_frL, ↓r_frN, ↓r_frNN, ↓r_max3, ↓r_seq, ↓r_next, ↓r_var0, ↓r_varS, ↓r_c, ↓r_op, ↓r_addI, ↓r_addS, ↓r_addT, ↓r_addL, ↓r_sub, ↓r_mul, ↓r_div, ↓r_mod, ↓r_pow, ↓r_lt, ↓r_le, ↓r_gt, ↓r_ge, ↓r_eqI, ↓r_neI, ↓r_isN, ↓r_isT, ↓r_isI, ↓r_isR, ↓r_inN, ↓r_inT, ↓r_inI, ↓r_ixT, ↓r_ixLs, ↓r_ixRo, ↓r_ixP, ↓r_at0, ↓r_at1, ↓r_at2, ↓r_at3, ↓r_neg, ↓r_negC, ↓r_b, ↓r_bl, ↓r_and, ↓r_or, ↓r_not, ↓r_andV, ↓r_orV, ↓r_notV, ↓r_bl', ↓r_if, ↓r_ifS, ↓r_asg, ↓r_name, ↓r_jnil, ↓r_jcons, ↓r_jtup, ↓r_jlst, ↓r_jlstP, ↓r_jsub, ↓r_jcut, ↓r_jcutP, ↓r_jcutA, ↓r_in2, ↓r_stP, ↓r_st0, ↓r_st1, ↓r_st2, ↓r_par, ↓r_ret, ↓r_retN, ↓r_drop, ↓r_brk, ↓r_cont, ↓r_raise, ↓r_nil, ↓r_cons, ↓r_tup, ↓r_lst, ↓r_new, ↓r_frz, ↓r_frzP, ↓r_cb, ↓r_call, ↓r_abs, ↓r_max, ↓r_min, ↓r_intI, ↓r_intB, ↓r_lenT, ↓r_lenL, ↓r_lenR, ↓r_lenP, ↓r_listL, ↓r_listR, ↓r_listOL, ↓r_tupleL, ↓r_tupleP, ↓r_isiII, ↓r_isiIB, ↓r_isiBI, ↓r_isiBB, ↓r_isiTT, ↓r_isiLL, ↓r_app, ↓r_appP, ↓r_clr, ↓r_clrP, ↓r_lstP, ↓r_cut, ↓r_onone, ↓r_osome, ↓r_int', ↓r_cutT, ↓r_cutLs, ↓r_cutP, ↓r_range1, ↓r_rg1, ↓rs0, ↓rsS, ↓ite_dec, ↓ite_ndec, ↓put_put, startD, List.length_cons, List.length_nil, and_assoc, and_true, true_and, and_self, or_self, or_false, false_or, or_true, true_or, decide_eq_true_eq, decide_true, decide_false, Bool.not_true, Bool.not_false, Bool.false_eq_true, if_true, if_false, ↓reduceIte, ne_eq, Nat.reduceLeDiff, Nat.reduceAdd, not_false_eq_true, not_true_eq_false, reduceCtorEq, Option.some.injEq, Int.reduceToNat, Int.reducePow, Int.reduceAdd, Int.reduceMul, Int.reduceSub, Int.reduceNeg, Int.reduceEq, List.nil_append, List.cons_append, ↓r_keep, ↓r_isExc, ↓r_indexM, ↓r_lstL, ↓r_eqF, ↓r_neF, ↓r_eqM, ↓r_neM, ↓r_isiFr, ↓r_eqB, ↓r_neB, beq_self_eq_true, ↓r_cutO, ↓r_cutOL, ↓r_cutOP])
    refine ⟨(b, 1), _, n + 2 + (n + n), rfl, fb, c2, zb.mono (by omega), b2, by omega, ?_⟩
    (try simp only [↓r_wm1, ↓r_wm2, ↓r_wm3, ↓r_wm4, ↓r_forT, ↓r_forI, ↓r_fU0, ↓r_fU1, ↓r_turn, ↓r_yes, ↓r_ofrz, ↓r_oown, ↓r_w0, ↓r_w1, ↓r_w2, ↓r_w3, ↓r_w4, ↓r_lcT, ↓r_lcI, ↓r_lcR, ↓r_cU0, ↓r_cU1, ↓r_s0, ↓r_n0, ↓r_s1, ↓r_n1, ↓r_s2, ↓r_n2, ↓r_s3, ↓r_n3, ↓r_s4, ↓r_n4, ↓r_s5, ↓r_n5, ↓r_s6, ↓r_n6, ↓r_s7, ↓r_n7, ↓r_s8, ↓r_n8, ↓r_s9, ↓r_n9, ↓r_s10, ↓r_n10, ↓r_s11, ↓r_n11, ↓r_s12, ↓r_n12, ↓r_s13, ↓r_n13, ↓r_s14, ↓r_n14, ↓r_s15, ↓r_n15, ↓r_s16, ↓r_n16, ↓r_s17, ↓r_n17, ↓r_s18, ↓r_n18, ↓r_s19, ↓r_n19, ↓r_s20, ↓r_n20, ↓r_s21, ↓r_n21, ↓r_s22, ↓r_n22, ↓r_s23, ↓r_n23, ↓r_s24, ↓r_n24, ↓r_s25, ↓r_n25, ↓r_fr0, ↓r_fr1, ↓r_frL, ↓r_frN, ↓r_frNN, ↓r_max3, ↓r_seq, ↓r_next, ↓r_var0, ↓r_varS, ↓r_c, ↓r_op, ↓r_addI, ↓r_addS, ↓r_addT, ↓r_addL, ↓r_sub, ↓r_mul, ↓r_div, ↓r_mod, ↓r_pow, ↓r_lt, ↓r_le, ↓r_gt, ↓r_ge, ↓r_eqI, ↓r_neI, ↓r_isN, ↓r_isT, ↓r_isI, ↓r_isR, ↓r_inN, ↓r_inT, ↓r_inI, ↓r_ixT, ↓r_ixLs, ↓r_ixRo, ↓r_ixP, ↓r_at0, ↓r_at1, ↓r_at2, ↓r_at3, ↓r_neg, ↓r_negC, ↓r_b, ↓r_bl, ↓r_and, ↓r_or, ↓r_not, ↓r_andV, ↓r_orV, ↓r_notV, ↓r_bl', ↓r_if, ↓r_ifS, ↓r_asg, ↓r_name, ↓r_jnil, ↓r_jcons, ↓r_jtup, ↓r_jlst, ↓r_jlstP, ↓r_jsub, ↓r_jcut, ↓r_jcutP, ↓r_jcutA, ↓r_in2, ↓r_stP, ↓r_st0, ↓r_st1, ↓r_st2, ↓r_par, ↓r_ret, ↓r_retN, ↓r_drop, ↓r_brk, ↓r_cont, ↓r_raise, ↓r_nil, ↓r_cons, ↓r_tup, ↓r_lst, ↓r_new, ↓r_frz, ↓r_frzP, ↓r_cb, ↓r_call, ↓r_abs, ↓r_max, ↓r_min, ↓r_intI, ↓r_intB, ↓r_lenT, ↓r_lenL, ↓r_lenR, ↓r_lenP, ↓r_listL, ↓r_listR, ↓r_listOL, ↓r_tupleL, ↓r_tupleP, ↓r_isiII, ↓r_isiIB, ↓r_isiBI, ↓r_isiBB, ↓r_isiTT, ↓r_isiLL, ↓r_app, ↓r_appP, ↓r_clr, ↓r_clrP, ↓r_lstP, ↓r_cut, ↓r_onone, ↓r_osome, ↓r_int', ↓r_cutT, ↓r_cutLs, ↓r_cutP, ↓r_range1, ↓r_rg1, ↓rs0, ↓rsS, ↓ite_dec, ↓ite_ndec, ↓put_put, startD, List.length_cons, List.length_nil, and_assoc, and_true, true_and, and_self, or_self, or_false, false_or, or_true, true_or, decide_eq_true_eq, decide_true, decide_false, Bool.not_true, Bool.not_false, Bool.false_eq_true, if_true, if_false, ↓reduceIte, ne_eq, Nat.reduceLeDiff, Nat.reduceAdd, not_false_eq_true, not_true_eq_false, reduceCtorEq, Option.some.injEq, Int.reduceToNat, Int.reducePow, Int.reduceAdd, Int.reduceMul, Int.reduceSub, Int.reduceNeg, Int.reduceEq, List.nil_append, List.cons_append, ↓r_keep, ↓r_isExc, ↓r_indexM, ↓r_lstL, ↓r_eqF, ↓r_neF, ↓r_eqM, ↓r_neM, ↓r_isiFr, ↓r_eqB, ↓r_neB, beq_self_eq_true, ↓r_cutO, ↓r_cutOL, ↓r_cutOP])
    refine ⟨(0, 1), (b, 1), n, rfl, f0, fb, z0, zb, by omega, ?_⟩
    (try simp only [↓r_wm1, ↓r_wm2, ↓r_wm3, ↓r_wm4, ↓r_forT, ↓r_forI, ↓r_fU0, ↓r_fU1, ↓r_turn, ↓r_yes, ↓r_ofrz, ↓r_oown, ↓r_w0, ↓r_w1, ↓r_w2, ↓r_w3, ↓r_w4, ↓r_lcT, ↓r_lcI, ↓r_lcR, ↓r_cU0, ↓r_cU1, ↓r_s0, ↓r_n0, ↓r_s1, ↓r_n1, ↓r_s2, ↓r_n2, ↓r_s3, ↓r_n3, ↓r_s4, ↓r_n4, ↓r_s5, ↓r_n5, ↓r_s6, ↓r_n6, ↓r_s7, ↓r_n7, ↓r_s8, ↓r_n8, ↓r_s9, ↓r_n9, ↓r_s10, ↓r_n10, ↓r_s11, ↓r_n11, ↓r_s12, ↓r_n12, ↓r_s13, ↓r_n13, ↓r_s14, ↓r_n14, ↓r_s15, ↓r_n15, ↓r_s16, ↓r_n16, ↓r_s17, ↓r_n17, ↓r_s18, ↓r_n18, ↓r_s19, ↓r_n19, ↓r_s20, ↓r_n20, ↓r_s21, ↓r_n21, ↓r_s22, ↓r_n22, ↓r_s23, ↓r_n23, ↓r_s24, ↓r_n24, ↓r_s25, ↓r_n25, ↓r_fr0, ↓r_fr1, ↓r_frL, ↓r_frN, ↓r_frNN, ↓r_max3, ↓r_seq, ↓r_next, ↓r_var0, ↓r_varS, ↓r_c, ↓r_op, ↓r_addI, ↓r_addS, ↓r_addT, ↓r_addL, ↓r_sub, ↓r_mul, ↓r_div, ↓r_mod, ↓r_pow, ↓r_lt, ↓r_le, ↓r_gt, ↓r_ge, ↓r_eqI, ↓r_neI, ↓r_isN, ↓r_isT, ↓r_isI, ↓r_isR, ↓r_inN, ↓r_inT, ↓r_inI, ↓r_ixT, ↓r_ixLs, ↓r_ixRo, ↓r_ixP, ↓r_at0, ↓r_at1, ↓r_at2, ↓r_at3, ↓r_neg, ↓r_negC, ↓r_b, ↓r_bl, ↓r_and, ↓r_or, ↓r_not, ↓r_andV, ↓r_orV, ↓r_notV, ↓r_bl', ↓r_if, ↓r_ifS, ↓r_asg, ↓r_name, ↓r_jnil, ↓r_jcons, ↓r_jtup, ↓r_jlst, ↓r_jlstP, ↓r_jsub, ↓r_jcut, ↓r_jcutP, ↓r_jcutA, ↓r_in2, ↓r_stP, ↓r_st0, ↓r_st1, ↓r_st2, ↓r_par, ↓r_ret, ↓r_retN, ↓r_drop, ↓r_brk, ↓r_cont, ↓r_raise, ↓r_nil, ↓r_cons, ↓r_tup, ↓r_lst, ↓r_new, ↓r_frz, ↓r_frzP, ↓r_cb, ↓r_call, ↓r_abs, ↓r_max, ↓r_min, ↓r_intI, ↓r_intB, ↓r_lenT, ↓r_lenL, ↓r_lenR, ↓r_lenP, ↓r_listL, ↓r_listR, ↓r_listOL, ↓r_tupleL, ↓r_tupleP, ↓r_isiII, ↓r_isiIB, ↓r_isiBI, ↓r_isiBB, ↓r_isiTT, ↓r_isiLL, ↓r_app, ↓r_appP, ↓r_clr, ↓r_clrP, ↓r_lstP, ↓r_cut, ↓r_onone, ↓r_osome, ↓r_int', ↓r_cutT, ↓r_cutLs, ↓r_cutP, ↓r_range1, ↓r_rg1, ↓rs0, ↓rsS, ↓ite_dec, ↓ite_ndec, ↓put_put, startD, List.length_cons, List.length_nil, and_assoc, and_true, true_and, and_self, or_self, or_false, false_or, or_true, true_or, decide_eq_true_eq, decide_true, decide_false, Bool.not_true, Bool.not_false, Bool.false_eq_true, if_true, if_false, ↓reduceIte, ne_eq, Nat.reduceLeDiff, Nat.reduceAdd, not_false_eq_true, not_true_eq_false, reduceCtorEq, Option.some.injEq, Int.reduceToNat, Int.reducePow, Int.reduceAdd, Int.reduceMul, Int.reduceSub, Int.reduceNeg, Int.reduceEq, List.nil_append, List.cons_append, ↓r_keep, ↓r_isExc, ↓r_indexM, ↓r_lstL, ↓r_eqF, ↓r_neF, ↓r_eqM, ↓r_neM, ↓r_isiFr, ↓r_eqB, ↓r_neB, beq_self_eq_true, ↓r_cutO, ↓r_cutOL, ↓r_cutOP])
    refine ⟨⟨(a, 1), fsub (0, 1) (b, 1), (c, 1)⟩, q, n, rfl, ⟨fa, c4, fc, za, b4, zc⟩, hq, bq, by omega, ?_⟩
    (try simp only [↓r_wm1, ↓r_wm2, ↓r_wm3, ↓r_wm4, ↓r_forT, ↓r_forI, ↓r_fU0, ↓r_fU1, ↓r_turn, ↓r_yes, ↓r_ofrz, ↓r_oown, ↓r_w0, ↓r_w1, ↓r_w2, ↓r_w3, ↓r_w4, ↓r_lcT, ↓r_lcI, ↓r_lcR, ↓r_cU0, ↓r_cU1, ↓r_s0, ↓r_n0, ↓r_s1, ↓r_n1, ↓r_s2, ↓r_n2, ↓r_s3, ↓r_n3, ↓r_s4, ↓r_n4, ↓r_s5, ↓r_n5, ↓r_s6, ↓r_n6, ↓r_s7, ↓r_n7, ↓r_s8, ↓r_n8, ↓r_s9, ↓r_n9, ↓r_s10, ↓r_n10, ↓r_s11, ↓r_n11, ↓r_s12, ↓r_n12, ↓r_s13, ↓r_n13, ↓r_s14, ↓r_n14, ↓r_s15, ↓r_n15, ↓r_s16, ↓r_n16, ↓r_s17, ↓r_n17, ↓r_s18, ↓r_n18, ↓r_s19, ↓r_n19, ↓r_s20, ↓r_n20, ↓r_s21, ↓r_n21, ↓r_s22, ↓r_n22, ↓r_s23, ↓r_n23, ↓r_s24, ↓r_n24, ↓r_s25, ↓r_n25, ↓r_fr0, ↓r_fr1, ↓r_frL, ↓r_frN, ↓r_frNN, ↓r_max3, ↓r_seq, ↓r_next, ↓r_var0, ↓r_varS, ↓r_c, ↓r_op, ↓r_addI, ↓r_addS, ↓r_addT, ↓r_addL, ↓r_sub, ↓r_mul, ↓r_div, ↓r_mod, ↓r_pow, ↓r_lt, ↓r_le, ↓r_gt, ↓r_ge, ↓r_eqI, ↓r_neI, ↓r_isN, ↓r_isT, ↓r_isI, ↓r_isR, ↓r_inN, ↓r_inT, ↓r_inI, ↓r_ixT, ↓r_ixLs, ↓r_ixRo, ↓r_ixP, ↓r_at0, ↓r_at1, ↓r_at2, ↓r_at3, ↓r_neg, ↓r_negC, ↓r_b, ↓r_bl, ↓r_and, ↓r_or, ↓r_not, ↓r_andV, ↓r_orV, ↓r_notV, ↓r_bl', ↓r_if, ↓r_ifS, ↓r_asg, ↓r_name, ↓r_jnil, ↓r_jcons, ↓r_jtup, ↓r_jlst, ↓r_jlstP, ↓r_jsub, ↓r_jcut, ↓r_jcutP, ↓r_jcutA, ↓r_in2, ↓r_stP, ↓r_st0, ↓r_st1, ↓r_st2, ↓r_par, ↓r_ret, ↓r_retN, ↓r_drop, ↓r_brk, ↓r_cont, ↓r_raise, ↓r_nil, ↓r_cons, ↓r_tup, ↓r_lst, ↓r_new, ↓r_frz, ↓r_frzP, ↓r_cb, ↓r_call, ↓r_abs, ↓r_max, ↓r_min, ↓r_intI, ↓r_intB, ↓r_lenT, ↓r_lenL, ↓r_lenR, ↓r_lenP, ↓r_listL, ↓r_listR, ↓r_listOL, ↓r_tupleL, ↓r_tupleP, ↓r_isiII, ↓r_isiIB, ↓r_isiBI, ↓r_isiBB, ↓r_isiTT, ↓r_isiLL, ↓r_app, ↓r_appP, ↓r_clr, ↓r_clrP, ↓r_lstP, ↓r_cut, ↓r_onone, ↓r_osome, ↓r_int', ↓r_cutT, ↓r_cutLs, ↓r_cutP, ↓r_range1, ↓r_rg1, ↓rs0, ↓rsS, ↓ite_dec, ↓ite_ndec, ↓put_put, startD, List.length_cons, List.length_nil, and_assoc, and_true, true_and, and_self, or_self, or_false, false_or, or_true, true_or, decide_eq_true_eq, decide_true, decide_false, Bool.not_true, Bool.not_false, Bool.false_eq_true, if_true, if_false, ↓reduceIte, ne_eq, Nat.reduceLeDiff, Nat.reduceAdd, not_false_eq_true, not_true_eq_false, reduceCtorEq, Option.some.injEq, Int.reduceToNat, Int.reducePow, Int.reduceAdd, Int.reduceMul, Int.reduceSub, Int.reduceNeg, Int.reduceEq, List.nil_append, List.cons_append, ↓r_keep, ↓r_isExc, ↓r_indexM, ↓r_lstL, ↓r_eqF, ↓r_neF, ↓r_eqM, ↓r_neM, ↓r_isiFr, ↓r_eqB, ↓r_neB, beq_self_eq_true, ↓r_cutO, ↓r_cutOL, ↓r_cutOP])
    refine ⟨movC a b c q, s, 3 * n + 4, rfl, mov_ok hq ba bb bc bq, nz_of_a (by show a ≠ 0; omega), by omega, ?_⟩
    exact h
def pr__law_any : DSp := drawM 80 10
theorem len__law_any : ∀ ds μ P PX, pr__law_any ds μ P PX → ds.length = (["_law_purse_here"] : List Str).length := by
  rintro ds μ P PX ⟨p, m, rfl, _⟩
  rfl
theorem ok__law_any {P : Program} {w : World} {K : PySem.W.Frag} {mg : Str → Option Value} {base : Heap} {f : Addr} {fd : FuncData} (F : Fun K "_law_any" "_law_any" s__law_any f fd)
    (d__law_take : Df P w K mg base "_law_take" ["_law_purse_here", "_law_many"] 2 pr__law_take)
    (d__law_great : Df P w K mg base "_law_great" ["_law_purse_here"] 3 pr__law_great)
    (d__law_great_root : Df P w K mg base "_law_great_root" ["_law_purse_here"] 3 pr__law_great_root)
    (d__law_moment : Df P w K mg base "_law_moment" ["_law_purse_here"] 4 pr__law_moment) : FnOk P w K mg base (L2.CX P w) 5 f fd ["_law_purse_here"] (spD K pr__law_any) := by
  have nd := sc__law_any.nd
  refine fn_D (k := 4) F sc__law_any len__law_any (by decide) (fun cdv A outer s H E PX hr tk hp => ⟨_, (sd_cons (sd_set 1 nd (pd_call d__law_take tk hr (by rfl) (da_cons (vr 0) (da_cons pd_int da_nil))))
      (sd_cons (sd_if (pt_eq hr.units (vr 1) pd_int)
       (sd_one (sd_ret (pd_call d__law_great tk hr (by rfl) (da_cons (vr 0) da_nil))))
       sd_nil)
      (sd_cons (sd_if (pt_eq hr.units (vr 1) pd_int)
       (sd_one (sd_ret (pd_call d__law_great_root tk hr (by rfl) (da_cons (vr 0) da_nil))))
       sd_nil)
      (sd_one (sd_ret (pd_call d__law_moment tk hr (by rfl) (da_cons (vr 0) da_nil)))))))⟩) ?_
  rintro ds μ P PX ⟨p, m, rfl, hp, hm, h⟩
  (try simp only [↓r_wm1, ↓r_wm2, ↓r_wm3, ↓r_wm4, ↓r_forT, ↓r_forI, ↓r_fU0, ↓r_fU1, ↓r_turn, ↓r_yes, ↓r_ofrz, ↓r_oown, ↓r_w0, ↓r_w1, ↓r_w2, ↓r_w3, ↓r_w4, ↓r_lcT, ↓r_lcI, ↓r_lcR, ↓r_cU0, ↓r_cU1, ↓r_s0, ↓r_n0, ↓r_s1, ↓r_n1, ↓r_s2, ↓r_n2, ↓r_s3, ↓r_n3, ↓r_s4, ↓r_n4, ↓r_s5, ↓r_n5, ↓r_s6, ↓r_n6, ↓r_s7, ↓r_n7, ↓r_s8, ↓r_n8, ↓r_s9, ↓r_n9, ↓r_s10, ↓r_n10, ↓r_s11, ↓r_n11, ↓r_s12, ↓r_n12, ↓r_s13, ↓r_n13, ↓r_s14, ↓r_n14, ↓r_s15, ↓r_n15, ↓r_s16, ↓r_n16, ↓r_s17, ↓r_n17, ↓r_s18, ↓r_n18, ↓r_s19, ↓r_n19, ↓r_s20, ↓r_n20, ↓r_s21, ↓r_n21, ↓r_s22, ↓r_n22, ↓r_s23, ↓r_n23, ↓r_s24, ↓r_n24, ↓r_s25, ↓r_n25, ↓r_fr0, ↓r_fr1, ↓r_frL, ↓r_frN, ↓r_frNN, ↓r_max3, ↓r_seq, ↓r_next, ↓r_var0, ↓r_varS, ↓r_c, ↓r_op, ↓r_addI, ↓r_addS, ↓r_addT, ↓r_addL, ↓r_sub, ↓r_mul, ↓r_div, ↓r_mod, ↓r_pow, ↓r_lt, ↓r_le, ↓r_gt, ↓r_ge, ↓r_eqI, ↓r_neI, ↓r_isN, ↓r_isT, ↓r_isI, ↓r_isR, ↓r_inN, ↓r_inT, ↓r_inI, ↓r_ixT, ↓r_ixLs, ↓r_ixRo, ↓r_ixP, ↓r_at0, ↓r_at1, ↓r_at2, ↓r_at3, ↓r_neg, ↓r_negC, ↓r_b, ↓r_bl, ↓r_and, ↓r_or, ↓r_not, ↓r_andV, ↓r_orV, ↓r_notV, ↓r_bl', ↓r_if, ↓r_ifS, ↓r_asg, ↓r_name, ↓r_jnil, ↓r_jcons, ↓r_jtup, ↓r_jlst, ↓r_jlstP, ↓r_jsub, ↓r_jcut, ↓r_jcutP, ↓r_jcutA, ↓r_in2, ↓r_stP, ↓r_st0, ↓r_st1, ↓r_st2, ↓r_par, ↓r_ret, ↓r_retN, ↓r_drop, ↓r_brk, ↓r_cont, ↓r_raise, ↓r_nil, ↓r_cons, ↓r_tup, ↓r_lst, ↓r_new, ↓r_frz, ↓r_frzP, ↓r_cb, ↓r_call, ↓r_abs, ↓r_max, ↓r_min, ↓r_intI, ↓r_intB, ↓r_lenT, ↓r_lenL, ↓r_lenR, ↓r_lenP, ↓r_listL, ↓r_listR, ↓r_listOL, ↓r_tupleL, ↓r_tupleP, ↓r_isiII, ↓r_isiIB, ↓r_isiBI, ↓r_isiBB, ↓r_isiTT, ↓r_isiLL, ↓r_app, ↓r_appP, ↓r_clr, ↓r_clrP, ↓r_lstP, ↓r_cut, ↓r_onone, ↓r_osome, ↓r_int', ↓r_cutT, ↓r_cutLs, ↓r_cutP, ↓r_range1, ↓r_rg1, ↓rs0, ↓rsS, ↓ite_dec, ↓ite_ndec, ↓put_put, startD, List.length_cons, List.length_nil, and_assoc, and_true, true_and, and_self, or_self, or_false, false_or, or_true, true_or, decide_eq_true_eq, decide_true, decide_false, Bool.not_true, Bool.not_false, Bool.false_eq_true, if_true, if_false, ↓reduceIte, ne_eq, Nat.reduceLeDiff, Nat.reduceAdd, not_false_eq_true, not_true_eq_false, reduceCtorEq, Option.some.injEq, Int.reduceToNat, Int.reducePow, Int.reduceAdd, Int.reduceMul, Int.reduceSub, Int.reduceNeg, Int.reduceEq, List.nil_append, List.cons_append, ↓r_keep, ↓r_isExc, ↓r_indexM, ↓r_lstL, ↓r_eqF, ↓r_neF, ↓r_eqM, ↓r_neM, ↓r_isiFr, ↓r_eqB, ↓r_neB, beq_self_eq_true, ↓r_cutO, ↓r_cutOL, ↓r_cutOP])
  refine ⟨p, 6, m, rfl, hp, by omega, by decide, by decide, fun r d1 r0 r1 h1 => ?_⟩
  (try simp only [↓r_wm1, ↓r_wm2, ↓r_wm3, ↓r_wm4, ↓r_forT, ↓r_forI, ↓r_fU0, ↓r_fU1, ↓r_turn, ↓r_yes, ↓r_ofrz, ↓r_oown, ↓r_w0, ↓r_w1, ↓r_w2, ↓r_w3, ↓r_w4, ↓r_lcT, ↓r_lcI, ↓r_lcR, ↓r_cU0, ↓r_cU1, ↓r_s0, ↓r_n0, ↓r_s1, ↓r_n1, ↓r_s2, ↓r_n2, ↓r_s3, ↓r_n3, ↓r_s4, ↓r_n4, ↓r_s5, ↓r_n5, ↓r_s6, ↓r_n6, ↓r_s7, ↓r_n7, ↓r_s8, ↓r_n8, ↓r_s9, ↓r_n9, ↓r_s10, ↓r_n10, ↓r_s11, ↓r_n11, ↓r_s12, ↓r_n12, ↓r_s13, ↓r_n13, ↓r_s14, ↓r_n14, ↓r_s15, ↓r_n15, ↓r_s16, ↓r_n16, ↓r_s17, ↓r_n17, ↓r_s18, ↓r_n18, ↓r_s19, ↓r_n19, ↓r_s20, ↓r_n20, ↓r_s21, ↓r_n21, ↓r_s22, ↓r_n22, ↓r_s23, ↓r_n23, ↓r_s24, ↓r_n24, ↓r_s25, ↓r_n25, ↓r_fr0, ↓r_fr1, ↓r_frL, ↓r_frN, ↓r_frNN, ↓r_max3, ↓r_seq, ↓r_next, ↓r_var0, ↓r_varS, ↓r_c, ↓r_op, ↓r_addI, ↓r_addS, ↓r_addT, ↓r_addL, ↓r_sub, ↓r_mul, ↓r_div, ↓r_mod, ↓r_pow, ↓r_lt, ↓r_le, ↓r_gt, ↓r_ge, ↓r_eqI, ↓r_neI, ↓r_isN, ↓r_isT, ↓r_isI, ↓r_isR, ↓r_inN, ↓r_inT, ↓r_inI, ↓r_ixT, ↓r_ixLs, ↓r_ixRo, ↓r_ixP, ↓r_at0, ↓r_at1, ↓r_at2, ↓r_at3, ↓r_neg, ↓r_negC, ↓r_b, ↓r_bl, ↓r_and, ↓r_or, ↓r_not, ↓r_andV, ↓r_orV, ↓r_notV, ↓r_bl', ↓r_if, ↓r_ifS, ↓r_asg, ↓r_name, ↓r_jnil, ↓r_jcons, ↓r_jtup, ↓r_jlst, ↓r_jlstP, ↓r_jsub, ↓r_jcut, ↓r_jcutP, ↓r_jcutA, ↓r_in2, ↓r_stP, ↓r_st0, ↓r_st1, ↓r_st2, ↓r_par, ↓r_ret, ↓r_retN, ↓r_drop, ↓r_brk, ↓r_cont, ↓r_raise, ↓r_nil, ↓r_cons, ↓r_tup, ↓r_lst, ↓r_new, ↓r_frz, ↓r_frzP, ↓r_cb, ↓r_call, ↓r_abs, ↓r_max, ↓r_min, ↓r_intI, ↓r_intB, ↓r_lenT, ↓r_lenL, ↓r_lenR, ↓r_lenP, ↓r_listL, ↓r_listR, ↓r_listOL, ↓r_tupleL, ↓r_tupleP, ↓r_isiII, ↓r_isiIB, ↓r_isiBI, ↓r_isiBB, ↓r_isiTT, ↓r_isiLL, ↓r_app, ↓r_appP, ↓r_clr, ↓r_clrP, ↓r_lstP, ↓r_cut, ↓r_onone, ↓r_osome, ↓r_int', ↓r_cutT, ↓r_cutLs, ↓r_cutP, ↓r_range1, ↓r_rg1, ↓rs0, ↓rsS, ↓ite_dec, ↓ite_ndec, ↓put_put, startD, List.length_cons, List.length_nil, and_assoc, and_true, true_and, and_self, or_self, or_false, false_or, or_true, true_or, decide_eq_true_eq, decide_true, decide_false, Bool.not_true, Bool.not_false, Bool.false_eq_true, if_true, if_false, ↓reduceIte, ne_eq, Nat.reduceLeDiff, Nat.reduceAdd, not_false_eq_true, not_true_eq_false, reduceCtorEq, Option.some.injEq, Int.reduceToNat, Int.reducePow, Int.reduceAdd, Int.reduceMul, Int.reduceSub, Int.reduceNeg, Int.reduceEq, List.nil_append, List.cons_append, ↓r_keep, ↓r_isExc, ↓r_indexM, ↓r_lstL, ↓r_eqF, ↓r_neF, ↓r_eqM, ↓r_neM, ↓r_isiFr, ↓r_eqB, ↓r_neB, beq_self_eq_true, ↓r_cutO, ↓r_cutOL, ↓r_cutOP])
  split
  · refine ⟨p, _, rfl, h1, by omega, fun q d2 q1 q2 h2 => ?_⟩
    (try simp only [↓r_wm1, ↓r_wm2, ↓r_wm3, ↓r_wm4, ↓r_forT, ↓r_forI, ↓r_fU0, ↓r_fU1, ↓r_turn, ↓r_yes, ↓r_ofrz, ↓r_oown, ↓r_w0, ↓r_w1, ↓r_w2, ↓r_w3, ↓r_w4, ↓r_lcT, ↓r_lcI, ↓r_lcR, ↓r_cU0, ↓r_cU1, ↓r_s0, ↓r_n0, ↓r_s1, ↓r_n1, ↓r_s2, ↓r_n2, ↓r_s3, ↓r_n3, ↓r_s4, ↓r_n4, ↓r_s5, ↓r_n5, ↓r_s6, ↓r_n6, ↓r_s7, ↓r_n7, ↓r_s8, ↓r_n8, ↓r_s9, ↓r_n9, ↓r_s10, ↓r_n10, ↓r_s11, ↓r_n11, ↓r_s12, ↓r_n12, ↓r_s13, ↓r_n13, ↓r_s14, ↓r_n14, ↓r_s15, ↓r_n15, ↓r_s16, ↓r_n16, ↓r_s17, ↓r_n17, ↓r_s18, ↓r_n18, ↓r_s19, ↓r_n19, ↓r_s20, ↓r_n20, ↓r_s21, ↓r_n21, ↓r_s22, ↓r_n22, ↓r_s23, ↓r_n23, ↓r_s24, ↓r_n24, ↓r_s25, ↓r_n25, ↓r_fr0, ↓r_fr1, ↓r_frL, ↓r_frN, ↓r_frNN, ↓r_max3, ↓r_seq, ↓r_next, ↓r_var0, ↓r_varS, ↓r_c, ↓r_op, ↓r_addI, ↓r_addS, ↓r_addT, ↓r_addL, ↓r_sub, ↓r_mul, ↓r_div, ↓r_mod, ↓r_pow, ↓r_lt, ↓r_le, ↓r_gt, ↓r_ge, ↓r_eqI, ↓r_neI, ↓r_isN, ↓r_isT, ↓r_isI, ↓r_isR, ↓r_inN, ↓r_inT, ↓r_inI, ↓r_ixT, ↓r_ixLs, ↓r_ixRo, ↓r_ixP, ↓r_at0, ↓r_at1, ↓r_at2, ↓r_at3, ↓r_neg, ↓r_negC, ↓r_b, ↓r_bl, ↓r_and, ↓r_or, ↓r_not, ↓r_andV, ↓r_orV, ↓r_notV, ↓r_bl', ↓r_if, ↓r_ifS, ↓r_asg, ↓r_name, ↓r_jnil, ↓r_jcons, ↓r_jtup, ↓r_jlst, ↓r_jlstP, ↓r_jsub, ↓r_jcut, ↓r_jcutP, ↓r_jcutA, ↓r_in2, ↓r_stP, ↓r_st0, ↓r_st1, ↓r_st2, ↓r_par, ↓r_ret, ↓r_retN, ↓r_drop, ↓r_brk, ↓r_cont, ↓r_raise, ↓r_nil, ↓r_cons, ↓r_tup, ↓r_lst, ↓r_new, ↓r_frz, ↓r_frzP, ↓r_cb, ↓r_call, ↓r_abs, ↓r_max, ↓r_min, ↓r_intI, ↓r_intB, ↓r_lenT, ↓r_lenL, ↓r_lenR, ↓r_lenP, ↓r_listL, ↓r_listR, ↓r_listOL, ↓r_tupleL, ↓r_tupleP, ↓r_isiII, ↓r_isiIB, ↓r_isiBI, ↓r_isiBB, ↓r_isiTT, ↓r_isiLL, ↓r_app, ↓r_appP, ↓r_clr, ↓r_clrP, ↓r_lstP, ↓r_cut, ↓r_onone, ↓r_osome, ↓r_int', ↓r_cutT, ↓r_cutLs, ↓r_cutP, ↓r_range1, ↓r_rg1, ↓rs0, ↓rsS, ↓ite_dec, ↓ite_ndec, ↓put_put, startD, List.length_cons, List.length_nil, and_assoc, and_true, true_and, and_self, or_self, or_false, false_or, or_true, true_or, decide_eq_true_eq, decide_true, decide_false, Bool.not_true, Bool.not_false, Bool.false_eq_true, if_true, if_false, ↓reduceIte, ne_eq, Nat.reduceLeDiff, Nat.reduceAdd, not_false_eq_true, not_true_eq_false, reduceCtorEq, Option.some.injEq, Int.reduceToNat, Int.reducePow, Int.reduceAdd, Int.reduceMul, Int.reduceSub, Int.reduceNeg, Int.reduceEq, List.nil_append, List.cons_append, ↓r_keep, ↓r_isExc, ↓r_indexM, ↓r_lstL, ↓r_eqF, ↓r_neF, ↓r_eqM, ↓r_neM, ↓r_isiFr, ↓r_eqB, ↓r_neB, beq_self_eq_true, ↓r_cutO, ↓r_cutOL, ↓r_cutOP])
    exact h q d2 (q1.mono (by decide)) q2 (h2.put.mono (by omega))
  · split
    · refine ⟨p, _, rfl, h1, by omega, fun q d2 q1 q2 h2 => ?_⟩
      (try simp only [↓r_wm1, ↓r_wm2, ↓r_wm3, ↓r_wm4, ↓r_forT, ↓r_forI, ↓r_fU0, ↓r_fU1, ↓r_turn, ↓r_yes, ↓r_ofrz, ↓r_oown, ↓r_w0, ↓r_w1, ↓r_w2, ↓r_w3, ↓r_w4, ↓r_lcT, ↓r_lcI, ↓r_lcR, ↓r_cU0, ↓r_cU1, ↓r_s0, ↓r_n0, ↓r_s1, ↓r_n1, ↓r_s2, ↓r_n2, ↓r_s3, ↓r_n3, ↓r_s4, ↓r_n4, ↓r_s5, ↓r_n5, ↓r_s6, ↓r_n6, ↓r_s7, ↓r_n7, ↓r_s8, ↓r_n8, ↓r_s9, ↓r_n9, ↓r_s10, ↓r_n10, ↓r_s11, ↓r_n11, ↓r_s12, ↓r_n12, ↓r_s13, ↓r_n13, ↓r_s14, ↓r_n14, ↓r_s15, ↓r_n15, ↓r_s16, ↓r_n16, ↓r_s17, ↓r_n17, ↓r_s18, ↓r_n18, ↓r_s19, ↓r_n19, ↓r_s20, ↓r_n20, ↓r_s21, ↓r_n21, ↓r_s22, ↓r_n22, ↓r_s23, ↓r_n23, ↓r_s24, ↓r_n24, ↓r_s25, ↓r_n25, ↓r_fr0, ↓r_fr1, ↓r_frL, ↓r_frN, ↓r_frNN, ↓r_max3, ↓r_seq, ↓r_next, ↓r_var0, ↓r_varS, ↓r_c, ↓r_op, ↓r_addI, ↓r_addS, ↓r_addT, ↓r_addL, ↓r_sub, ↓r_mul, ↓r_div, ↓r_mod, ↓r_pow, ↓r_lt, ↓r_le, ↓r_gt, ↓r_ge, ↓r_eqI, ↓r_neI, ↓r_isN, ↓r_isT, ↓r_isI, ↓r_isR, ↓r_inN, ↓r_inT, ↓r_inI, ↓r_ixT, ↓r_ixLs, ↓r_ixRo, ↓r_ixP, ↓r_at0, ↓r_at1, ↓r_at2, ↓r_at3, ↓r_neg, ↓r_negC, ↓r_b, ↓r_bl, ↓r_and, ↓r_or, ↓r_not, ↓r_andV, ↓r_orV, ↓r_notV, ↓r_bl', ↓r_if, ↓r_ifS, ↓r_asg, ↓r_name, ↓r_jnil, ↓r_jcons, ↓r_jtup, ↓r_jlst, ↓r_jlstP, ↓r_jsub, ↓r_jcut, ↓r_jcutP, ↓r_jcutA, ↓r_in2, ↓r_stP, ↓r_st0, ↓r_st1, ↓r_st2, ↓r_par, ↓r_ret, ↓r_retN, ↓r_drop, ↓r_brk, ↓r_cont, ↓r_raise, ↓r_nil, ↓r_cons, ↓r_tup, ↓r_lst, ↓r_new, ↓r_frz, ↓r_frzP, ↓r_cb, ↓r_call, ↓r_abs, ↓r_max, ↓r_min, ↓r_intI, ↓r_intB, ↓r_lenT, ↓r_lenL, ↓r_lenR, ↓r_lenP, ↓r_listL, ↓r_listR, ↓r_listOL, ↓r_tupleL, ↓r_tupleP, ↓r_isiII, ↓r_isiIB, ↓r_isiBI, ↓r_isiBB, ↓r_isiTT, ↓r_isiLL, ↓r_app, ↓r_appP, ↓r_clr, ↓r_clrP, ↓r_lstP, ↓r_cut, ↓r_onone, ↓r_osome, ↓r_int', ↓r_cutT, ↓r_cutLs, ↓r_cutP, ↓r_range1, ↓r_rg1, ↓rs0, ↓rsS, ↓ite_dec, ↓ite_ndec, ↓put_put, startD, List.length_cons, List.length_nil, and_assoc, and_true, true_and, and_self, or_self, or_false, false_or, or_true, true_or, decide_eq_true_eq, decide_true, decide_false, Bool.not_true, Bool.not_false, Bool.false_eq_true, if_true, if_false, ↓reduceIte, ne_eq, Nat.reduceLeDiff, Nat.reduceAdd, not_false_eq_true, not_true_eq_false, reduceCtorEq, Option.some.injEq, Int.reduceToNat, Int.reducePow, Int.reduceAdd, Int.reduceMul, Int.reduceSub, Int.reduceNeg, Int.reduceEq, List.nil_append, List.cons_append, ↓r_keep, ↓r_isExc, ↓r_indexM, ↓r_lstL, ↓r_eqF, ↓r_neF, ↓r_eqM, ↓r_neM, ↓r_isiFr, ↓r_eqB, ↓r_neB, beq_self_eq_true, ↓r_cutO, ↓r_cutOL, ↓r_cutOP])
      exact h q d2 (q1.mono (by decide)) q2 (h2.put.mono (by omega))
    · refine ⟨p, _, rfl, h1, by omega, fun q d2 q1 q2 h2 => ?_⟩
      (try simp only [↓r_wm1, ↓r_wm2, ↓r_wm3, ↓r_wm4, ↓r_forT, ↓r_forI, ↓r_fU0, ↓r_fU1, ↓r_turn, ↓r_yes, ↓r_ofrz, ↓r_oown, ↓r_w0, ↓r_w1, ↓r_w2, ↓r_w3, ↓r_w4, ↓r_lcT, ↓r_lcI, ↓r_lcR, ↓r_cU0, ↓r_cU1, ↓r_s0, ↓r_n0, ↓r_s1, ↓r_n1, ↓r_s2, ↓r_n2, ↓r_s3, ↓r_n3, ↓r_s4, ↓r_n4, ↓r_s5, ↓r_n5, ↓r_s6, ↓r_n6, ↓r_s7, ↓r_n7, ↓r_s8, ↓r_n8, ↓r_s9, ↓r_n9, ↓r_s10, ↓r_n10, ↓r_s11, ↓r_n11, ↓r_s12, ↓r_n12, ↓r_s13, ↓r_n13, ↓r_s14, ↓r_n14, ↓r_s15, ↓r_n15, ↓r_s16, ↓r_n16, ↓r_s17, ↓r_n17, ↓r_s18, ↓r_n18, ↓r_s19, ↓r_n19, ↓r_s20, ↓r_n20, ↓r_s21, ↓r_n21, ↓r_s22, ↓r_n22, ↓r_s23, ↓r_n23, ↓r_s24, ↓r_n24, ↓r_s25, ↓r_n25, ↓r_fr0, ↓r_fr1, ↓r_frL, ↓r_frN, ↓r_frNN, ↓r_max3, ↓r_seq, ↓r_next, ↓r_var0, ↓r_varS, ↓r_c, ↓r_op, ↓r_addI, ↓r_addS, ↓r_addT, ↓r_addL, ↓r_sub, ↓r_mul, ↓r_div, ↓r_mod, ↓r_pow, ↓r_lt, ↓r_le, ↓r_gt, ↓r_ge, ↓r_eqI, ↓r_neI, ↓r_isN, ↓r_isT, ↓r_isI, ↓r_isR, ↓r_inN, ↓r_inT, ↓r_inI, ↓r_ixT, ↓r_ixLs, ↓r_ixRo, ↓r_ixP, ↓r_at0, ↓r_at1, ↓r_at2, ↓r_at3, ↓r_neg, ↓r_negC, ↓r_b, ↓r_bl, ↓r_and, ↓r_or, ↓r_not, ↓r_andV, ↓r_orV, ↓r_notV, ↓r_bl', ↓r_if, ↓r_ifS, ↓r_asg, ↓r_name, ↓r_jnil, ↓r_jcons, ↓r_jtup, ↓r_jlst, ↓r_jlstP, ↓r_jsub, ↓r_jcut, ↓r_jcutP, ↓r_jcutA, ↓r_in2, ↓r_stP, ↓r_st0, ↓r_st1, ↓r_st2, ↓r_par, ↓r_ret, ↓r_retN, ↓r_drop, ↓r_brk, ↓r_cont, ↓r_raise, ↓r_nil, ↓r_cons, ↓r_tup, ↓r_lst, ↓r_new, ↓r_frz, ↓r_frzP, ↓r_cb, ↓r_call, ↓r_abs, ↓r_max, ↓r_min, ↓r_intI, ↓r_intB, ↓r_lenT, ↓r_lenL, ↓r_lenR, ↓r_lenP, ↓r_listL, ↓r_listR, ↓r_listOL, ↓r_tupleL, ↓r_tupleP, ↓r_isiII, ↓r_isiIB, ↓r_isiBI, ↓r_isiBB, ↓r_isiTT, ↓r_isiLL, ↓r_app, ↓r_appP, ↓r_clr, ↓r_clrP, ↓r_lstP, ↓r_cut, ↓r_onone, ↓r_osome, ↓r_int', ↓r_cutT, ↓r_cutLs, ↓r_cutP, ↓r_range1, ↓r_rg1, ↓rs0, ↓rsS, ↓ite_dec, ↓ite_ndec, ↓put_put, startD, List.length_cons, List.length_nil, and_assoc, and_true, true_and, and_self, or_self, or_false, false_or, or_true, true_or, decide_eq_true_eq, decide_true, decide_false, Bool.not_true, Bool.not_false, Bool.false_eq_true, if_true, if_false, ↓reduceIte, ne_eq, Nat.reduceLeDiff, Nat.reduceAdd, not_false_eq_true, not_true_eq_false, reduceCtorEq, Option.some.injEq, Int.reduceToNat, Int.reducePow, Int.reduceAdd, Int.reduceMul, Int.reduceSub, Int.reduceNeg, Int.reduceEq, List.nil_append, List.cons_append, ↓r_keep, ↓r_isExc, ↓r_indexM, ↓r_lstL, ↓r_eqF, ↓r_neF, ↓r_eqM, ↓r_neM, ↓r_isiFr, ↓r_eqB, ↓r_neB, beq_self_eq_true, ↓r_cutO, ↓r_cutOL, ↓r_cutOP])
      exact h q d2 (q1.mono (by decide)) q2 (h2.put.mono (by omega))
def pr__law_told (e : Addr) : DSp := fun ds μ P _ => ∃ (m : Mom) (q : Int × Int) (n : Nat), ds = [m.d, fr q] ∧ m.Ok n ∧ Fr q ∧ FB n q ∧ n ≤ 600 ∧ (q.1 ≠ 0 → P (grwM m q).d μ) ∧ (q.1 = 0 → P (.str "NoFraction") μ)
theorem len__law_told {e : Addr} : ∀ ds μ P PX, pr__law_told e ds μ P PX → ds.length = (["_law_moment_here", "_law_by_here"] : List Str).length := by
  rintro ds μ P PX ⟨m, q, n, rfl, _⟩
  rfl
theorem ok__law_told {P : Program} {w : World} {K : PySem.W.Frag} {mg : Str → Option Value} {base : Heap} {f : Addr} {fd : FuncData} {a_NoFraction : Addr}
    {a_PaceError : Addr}
    (F : Fun K "_law_told" "_law_told" s__law_told f fd)
    (n_PaceError : mg "PaceError" = some (.ref a_PaceError))
    (em_NoFraction_PaceError : PySem.W.exmOne K (.ref a_NoFraction) (.ref a_PaceError) = some true)
    (d_grown_by_x : Df P w K mg base "grown_by" ["moment", "by"] 4 (pr_grown_by_x a_NoFraction))
    (d__law_class : Df P w K mg base "_law_class" ["_law_error"] 1 (pr__law_class a_NoFraction)) : FnOk P w K mg base (L2.CX P w) 5 f fd ["_law_moment_here", "_law_by_here"] (spD K (pr__law_told a_NoFraction)) := by
  have nd := sc__law_told.nd
  refine fn_D (k := 4) F sc__law_told len__law_told (by decide) (fun cdv A outer s H E PX hr tk hp => ⟨_, (sd_cons (sd_set 2 nd pd_non)
      (sd_cons (sd_set 3 nd pd_non)
      (sd_cons (sd_tryKeepK K (by rfl) 4 2 rfl rfl nd rfl ⟨rfl, by decide, .inl n_PaceError⟩ (fun W PX pn xe tk hp => (sd_one (sd_set 3 nd (pd_callK K (by rfl) d_grown_by_x tk hr (by rfl) (da_cons (vr 0) (da_cons (vr 1) da_nil)))))))
      (sd_cons (sd_if (pt_is (vr 2) pd_non)
       (sd_one (sd_ret (vr 3)))
       sd_nil)
      (sd_one (sd_ret (pd_call d__law_class tk hr (by rfl) (da_cons (vr 2) da_nil))))))))⟩) ?_
  rintro ds μ P PX ⟨m, q, n, rfl, hm, hq, bq, hn, h, h'⟩
  (try simp only [↓r_wm1, ↓r_wm2, ↓r_wm3, ↓r_wm4, ↓r_forT, ↓r_forI, ↓r_fU0, ↓r_fU1, ↓r_turn, ↓r_yes, ↓r_ofrz, ↓r_oown, ↓r_w0, ↓r_w1, ↓r_w2, ↓r_w3, ↓r_w4, ↓r_lcT, ↓r_lcI, ↓r_lcR, ↓r_cU0, ↓r_cU1, ↓r_s0, ↓r_n0, ↓r_s1, ↓r_n1, ↓r_s2, ↓r_n2, ↓r_s3, ↓r_n3, ↓r_s4, ↓r_n4, ↓r_s5, ↓r_n5, ↓r_s6, ↓r_n6, ↓r_s7, ↓r_n7, ↓r_s8, ↓r_n8, ↓r_s9, ↓r_n9, ↓r_s10, ↓r_n10, ↓r_s11, ↓r_n11, ↓r_s12, ↓r_n12, ↓r_s13, ↓r_n13, ↓r_s14, ↓r_n14, ↓r_s15, ↓r_n15, ↓r_s16, ↓r_n16, ↓r_s17, ↓r_n17, ↓r_s18, ↓r_n18, ↓r_s19, ↓r_n19, ↓r_s20, ↓r_n20, ↓r_s21, ↓r_n21, ↓r_s22, ↓r_n22, ↓r_s23, ↓r_n23, ↓r_s24, ↓r_n24, ↓r_s25, ↓r_n25, ↓r_fr0, ↓r_fr1, ↓r_frL, ↓r_frN, ↓r_frNN, ↓r_max3, ↓r_seq, ↓r_next, ↓r_var0, ↓r_varS, ↓r_c, ↓r_op, ↓r_addI, ↓r_addS, ↓r_addT, ↓r_addL, ↓r_sub, ↓r_mul, ↓r_div, ↓r_mod, ↓r_pow, ↓r_lt, ↓r_le, ↓r_gt, ↓r_ge, ↓r_eqI, ↓r_neI, ↓r_isN, ↓r_isT, ↓r_isI, ↓r_isR, ↓r_inN, ↓r_inT, ↓r_inI, ↓r_ixT, ↓r_ixLs, ↓r_ixRo, ↓r_ixP, ↓r_at0, ↓r_at1, ↓r_at2, ↓r_at3, ↓r_neg, ↓r_negC, ↓r_b, ↓r_bl, ↓r_and, ↓r_or, ↓r_not, ↓r_andV, ↓r_orV, ↓r_notV, ↓r_bl', ↓r_if, ↓r_ifS, ↓r_asg, ↓r_name, ↓r_jnil, ↓r_jcons, ↓r_jtup, ↓r_jlst, ↓r_jlstP, ↓r_jsub, ↓r_jcut, ↓r_jcutP, ↓r_jcutA, ↓r_in2, ↓r_stP, ↓r_st0, ↓r_st1, ↓r_st2, ↓r_par, ↓r_ret, ↓r_retN, ↓r_drop, ↓r_brk, ↓r_cont, ↓r_raise, ↓r_nil, ↓r_cons, ↓r_tup, ↓r_lst, ↓r_new, ↓r_frz, ↓r_frzP, ↓r_cb, ↓r_call, ↓r_abs, ↓r_max, ↓r_min, ↓r_intI, ↓r_intB, ↓r_lenT, ↓r_lenL, ↓r_lenR, ↓r_lenP, ↓r_listL, ↓r_listR, ↓r_listOL, ↓r_tupleL, ↓r_tupleP, ↓r_isiII, ↓r_isiIB, ↓r_isiBI, ↓r_isiBB, ↓r_isiTT, ↓r_isiLL, ↓r_app, ↓r_appP, ↓r_clr, ↓r_clrP, ↓r_lstP, ↓r_cut, ↓r_onone, ↓r_osome, ↓r_int', ↓r_cutT, ↓r_cutLs, ↓r_cutP, ↓r_range1, ↓r_rg1, ↓rs0, ↓rsS, ↓ite_dec, ↓ite_ndec, ↓put_put, startD, List.length_cons, List.length_nil, and_assoc, and_true, true_and, and_self, or_self, or_false, false_or, or_true, true_or, decide_eq_true_eq, decide_true, decide_false, Bool.not_true, Bool.not_false, Bool.false_eq_true, if_true, if_false, ↓reduceIte, ne_eq, Nat.reduceLeDiff, Nat.reduceAdd, not_false_eq_true, not_true_eq_false, reduceCtorEq, Option.some.injEq, Int.reduceToNat, Int.reducePow, Int.reduceAdd, Int.reduceMul, Int.reduceSub, Int.reduceNeg, Int.reduceEq, List.nil_append, List.cons_append, ↓r_keep, ↓r_isExc, ↓r_indexM, ↓r_lstL, ↓r_eqF, ↓r_neF, ↓r_eqM, ↓r_neM, ↓r_isiFr, ↓r_eqB, ↓r_neB, beq_self_eq_true, ↓r_cutO, ↓r_cutOL, ↓r_cutOP])
  refine ⟨m, q, n, rfl, hm, hq, bq, hn, fun h0 => ?_, fun h0 => ?_⟩
  · (try simp only [↓r_wm1, ↓r_wm2, ↓r_wm3, ↓r_wm4, ↓r_forT, ↓r_forI, ↓r_fU0, ↓r_fU1, ↓r_turn, ↓r_yes, ↓r_ofrz, ↓r_oown, ↓r_w0, ↓r_w1, ↓r_w2, ↓r_w3, ↓r_w4, ↓r_lcT, ↓r_lcI, ↓r_lcR, ↓r_cU0, ↓r_cU1, ↓r_s0, ↓r_n0, ↓r_s1, ↓r_n1, ↓r_s2, ↓r_n2, ↓r_s3, ↓r_n3, ↓r_s4, ↓r_n4, ↓r_s5, ↓r_n5, ↓r_s6, ↓r_n6, ↓r_s7, ↓r_n7, ↓r_s8, ↓r_n8, ↓r_s9, ↓r_n9, ↓r_s10, ↓r_n10, ↓r_s11, ↓r_n11, ↓r_s12, ↓r_n12, ↓r_s13, ↓r_n13, ↓r_s14, ↓r_n14, ↓r_s15, ↓r_n15, ↓r_s16, ↓r_n16, ↓r_s17, ↓r_n17, ↓r_s18, ↓r_n18, ↓r_s19, ↓r_n19, ↓r_s20, ↓r_n20, ↓r_s21, ↓r_n21, ↓r_s22, ↓r_n22, ↓r_s23, ↓r_n23, ↓r_s24, ↓r_n24, ↓r_s25, ↓r_n25, ↓r_fr0, ↓r_fr1, ↓r_frL, ↓r_frN, ↓r_frNN, ↓r_max3, ↓r_seq, ↓r_next, ↓r_var0, ↓r_varS, ↓r_c, ↓r_op, ↓r_addI, ↓r_addS, ↓r_addT, ↓r_addL, ↓r_sub, ↓r_mul, ↓r_div, ↓r_mod, ↓r_pow, ↓r_lt, ↓r_le, ↓r_gt, ↓r_ge, ↓r_eqI, ↓r_neI, ↓r_isN, ↓r_isT, ↓r_isI, ↓r_isR, ↓r_inN, ↓r_inT, ↓r_inI, ↓r_ixT, ↓r_ixLs, ↓r_ixRo, ↓r_ixP, ↓r_at0, ↓r_at1, ↓r_at2, ↓r_at3, ↓r_neg, ↓r_negC, ↓r_b, ↓r_bl, ↓r_and, ↓r_or, ↓r_not, ↓r_andV, ↓r_orV, ↓r_notV, ↓r_bl', ↓r_if, ↓r_ifS, ↓r_asg, ↓r_name, ↓r_jnil, ↓r_jcons, ↓r_jtup, ↓r_jlst, ↓r_jlstP, ↓r_jsub, ↓r_jcut, ↓r_jcutP, ↓r_jcutA, ↓r_in2, ↓r_stP, ↓r_st0, ↓r_st1, ↓r_st2, ↓r_par, ↓r_ret, ↓r_retN, ↓r_drop, ↓r_brk, ↓r_cont, ↓r_raise, ↓r_nil, ↓r_cons, ↓r_tup, ↓r_lst, ↓r_new, ↓r_frz, ↓r_frzP, ↓r_cb, ↓r_call, ↓r_abs, ↓r_max, ↓r_min, ↓r_intI, ↓r_intB, ↓r_lenT, ↓r_lenL, ↓r_lenR, ↓r_lenP, ↓r_listL, ↓r_listR, ↓r_listOL, ↓r_tupleL, ↓r_tupleP, ↓r_isiII, ↓r_isiIB, ↓r_isiBI, ↓r_isiBB, ↓r_isiTT, ↓r_isiLL, ↓r_app, ↓r_appP, ↓r_clr, ↓r_clrP, ↓r_lstP, ↓r_cut, ↓r_onone, ↓r_osome, ↓r_int', ↓r_cutT, ↓r_cutLs, ↓r_cutP, ↓r_range1, ↓r_rg1, ↓rs0, ↓rsS, ↓ite_dec, ↓ite_ndec, ↓put_put, startD, List.length_cons, List.length_nil, and_assoc, and_true, true_and, and_self, or_self, or_false, false_or, or_true, true_or, decide_eq_true_eq, decide_true, decide_false, Bool.not_true, Bool.not_false, Bool.false_eq_true, if_true, if_false, ↓reduceIte, ne_eq, Nat.reduceLeDiff, Nat.reduceAdd, not_false_eq_true, not_true_eq_false, reduceCtorEq, Option.some.injEq, Int.reduceToNat, Int.reducePow, Int.reduceAdd, Int.reduceMul, Int.reduceSub, Int.reduceNeg, Int.reduceEq, List.nil_append, List.cons_append, ↓r_keep, ↓r_isExc, ↓r_indexM, ↓r_lstL, ↓r_eqF, ↓r_neF, ↓r_eqM, ↓r_neM, ↓r_isiFr, ↓r_eqB, ↓r_neB, beq_self_eq_true, ↓r_cutO, ↓r_cutOL, ↓r_cutOP])
    exact h h0
  · (try simp only [↓r_wm1, ↓r_wm2, ↓r_wm3, ↓r_wm4, ↓r_forT, ↓r_forI, ↓r_fU0, ↓r_fU1, ↓r_turn, ↓r_yes, ↓r_ofrz, ↓r_oown, ↓r_w0, ↓r_w1, ↓r_w2, ↓r_w3, ↓r_w4, ↓r_lcT, ↓r_lcI, ↓r_lcR, ↓r_cU0, ↓r_cU1, ↓r_s0, ↓r_n0, ↓r_s1, ↓r_n1, ↓r_s2, ↓r_n2, ↓r_s3, ↓r_n3, ↓r_s4, ↓r_n4, ↓r_s5, ↓r_n5, ↓r_s6, ↓r_n6, ↓r_s7, ↓r_n7, ↓r_s8, ↓r_n8, ↓r_s9, ↓r_n9, ↓r_s10, ↓r_n10, ↓r_s11, ↓r_n11, ↓r_s12, ↓r_n12, ↓r_s13, ↓r_n13, ↓r_s14, ↓r_n14, ↓r_s15, ↓r_n15, ↓r_s16, ↓r_n16, ↓r_s17, ↓r_n17, ↓r_s18, ↓r_n18, ↓r_s19, ↓r_n19, ↓r_s20, ↓r_n20, ↓r_s21, ↓r_n21, ↓r_s22, ↓r_n22, ↓r_s23, ↓r_n23, ↓r_s24, ↓r_n24, ↓r_s25, ↓r_n25, ↓r_fr0, ↓r_fr1, ↓r_frL, ↓r_frN, ↓r_frNN, ↓r_max3, ↓r_seq, ↓r_next, ↓r_var0, ↓r_varS, ↓r_c, ↓r_op, ↓r_addI, ↓r_addS, ↓r_addT, ↓r_addL, ↓r_sub, ↓r_mul, ↓r_div, ↓r_mod, ↓r_pow, ↓r_lt, ↓r_le, ↓r_gt, ↓r_ge, ↓r_eqI, ↓r_neI, ↓r_isN, ↓r_isT, ↓r_isI, ↓r_isR, ↓r_inN, ↓r_inT, ↓r_inI, ↓r_ixT, ↓r_ixLs, ↓r_ixRo, ↓r_ixP, ↓r_at0, ↓r_at1, ↓r_at2, ↓r_at3, ↓r_neg, ↓r_negC, ↓r_b, ↓r_bl, ↓r_and, ↓r_or, ↓r_not, ↓r_andV, ↓r_orV, ↓r_notV, ↓r_bl', ↓r_if, ↓r_ifS, ↓r_asg, ↓r_name, ↓r_jnil, ↓r_jcons, ↓r_jtup, ↓r_jlst, ↓r_jlstP, ↓r_jsub, ↓r_jcut, ↓r_jcutP, ↓r_jcutA, ↓r_in2, ↓r_stP, ↓r_st0, ↓r_st1, ↓r_st2, ↓r_par, ↓r_ret, ↓r_retN, ↓r_drop, ↓r_brk, ↓r_cont, ↓r_raise, ↓r_nil, ↓r_cons, ↓r_tup, ↓r_lst, ↓r_new, ↓r_frz, ↓r_frzP, ↓r_cb, ↓r_call, ↓r_abs, ↓r_max, ↓r_min, ↓r_intI, ↓r_intB, ↓r_lenT, ↓r_lenL, ↓r_lenR, ↓r_lenP, ↓r_listL, ↓r_listR, ↓r_listOL, ↓r_tupleL, ↓r_tupleP, ↓r_isiII, ↓r_isiIB, ↓r_isiBI, ↓r_isiBB, ↓r_isiTT, ↓r_isiLL, ↓r_app, ↓r_appP, ↓r_clr, ↓r_clrP, ↓r_lstP, ↓r_cut, ↓r_onone, ↓r_osome, ↓r_int', ↓r_cutT, ↓r_cutLs, ↓r_cutP, ↓r_range1, ↓r_rg1, ↓rs0, ↓rsS, ↓ite_dec, ↓ite_ndec, ↓put_put, startD, List.length_cons, List.length_nil, and_assoc, and_true, true_and, and_self, or_self, or_false, false_or, or_true, true_or, decide_eq_true_eq, decide_true, decide_false, Bool.not_true, Bool.not_false, Bool.false_eq_true, if_true, if_false, ↓reduceIte, ne_eq, Nat.reduceLeDiff, Nat.reduceAdd, not_false_eq_true, not_true_eq_false, reduceCtorEq, Option.some.injEq, Int.reduceToNat, Int.reducePow, Int.reduceAdd, Int.reduceMul, Int.reduceSub, Int.reduceNeg, Int.reduceEq, List.nil_append, List.cons_append, ↓r_keep, ↓r_isExc, ↓r_indexM, ↓r_lstL, ↓r_eqF, ↓r_neF, ↓r_eqM, ↓r_neM, ↓r_isiFr, ↓r_eqB, ↓r_neB, beq_self_eq_true, ↓r_cutO, ↓r_cutOL, ↓r_cutOP])
    refine ⟨em_NoFraction_PaceError, by decide, ?_⟩
    (try simp only [↓r_wm1, ↓r_wm2, ↓r_wm3, ↓r_wm4, ↓r_forT, ↓r_forI, ↓r_fU0, ↓r_fU1, ↓r_turn, ↓r_yes, ↓r_ofrz, ↓r_oown, ↓r_w0, ↓r_w1, ↓r_w2, ↓r_w3, ↓r_w4, ↓r_lcT, ↓r_lcI, ↓r_lcR, ↓r_cU0, ↓r_cU1, ↓r_s0, ↓r_n0, ↓r_s1, ↓r_n1, ↓r_s2, ↓r_n2, ↓r_s3, ↓r_n3, ↓r_s4, ↓r_n4, ↓r_s5, ↓r_n5, ↓r_s6, ↓r_n6, ↓r_s7, ↓r_n7, ↓r_s8, ↓r_n8, ↓r_s9, ↓r_n9, ↓r_s10, ↓r_n10, ↓r_s11, ↓r_n11, ↓r_s12, ↓r_n12, ↓r_s13, ↓r_n13, ↓r_s14, ↓r_n14, ↓r_s15, ↓r_n15, ↓r_s16, ↓r_n16, ↓r_s17, ↓r_n17, ↓r_s18, ↓r_n18, ↓r_s19, ↓r_n19, ↓r_s20, ↓r_n20, ↓r_s21, ↓r_n21, ↓r_s22, ↓r_n22, ↓r_s23, ↓r_n23, ↓r_s24, ↓r_n24, ↓r_s25, ↓r_n25, ↓r_fr0, ↓r_fr1, ↓r_frL, ↓r_frN, ↓r_frNN, ↓r_max3, ↓r_seq, ↓r_next, ↓r_var0, ↓r_varS, ↓r_c, ↓r_op, ↓r_addI, ↓r_addS, ↓r_addT, ↓r_addL, ↓r_sub, ↓r_mul, ↓r_div, ↓r_mod, ↓r_pow, ↓r_lt, ↓r_le, ↓r_gt, ↓r_ge, ↓r_eqI, ↓r_neI, ↓r_isN, ↓r_isT, ↓r_isI, ↓r_isR, ↓r_inN, ↓r_inT, ↓r_inI, ↓r_ixT, ↓r_ixLs, ↓r_ixRo, ↓r_ixP, ↓r_at0, ↓r_at1, ↓r_at2, ↓r_at3, ↓r_neg, ↓r_negC, ↓r_b, ↓r_bl, ↓r_and, ↓r_or, ↓r_not, ↓r_andV, ↓r_orV, ↓r_notV, ↓r_bl', ↓r_if, ↓r_ifS, ↓r_asg, ↓r_name, ↓r_jnil, ↓r_jcons, ↓r_jtup, ↓r_jlst, ↓r_jlstP, ↓r_jsub, ↓r_jcut, ↓r_jcutP, ↓r_jcutA, ↓r_in2, ↓r_stP, ↓r_st0, ↓r_st1, ↓r_st2, ↓r_par, ↓r_ret, ↓r_retN, ↓r_drop, ↓r_brk, ↓r_cont, ↓r_raise, ↓r_nil, ↓r_cons, ↓r_tup, ↓r_lst, ↓r_new, ↓r_frz, ↓r_frzP, ↓r_cb, ↓r_call, ↓r_abs, ↓r_max, ↓r_min, ↓r_intI, ↓r_intB, ↓r_lenT, ↓r_lenL, ↓r_lenR, ↓r_lenP, ↓r_listL, ↓r_listR, ↓r_listOL, ↓r_tupleL, ↓r_tupleP, ↓r_isiII, ↓r_isiIB, ↓r_isiBI, ↓r_isiBB, ↓r_isiTT, ↓r_isiLL, ↓r_app, ↓r_appP, ↓r_clr, ↓r_clrP, ↓r_lstP, ↓r_cut, ↓r_onone, ↓r_osome, ↓r_int', ↓r_cutT, ↓r_cutLs, ↓r_cutP, ↓r_range1, ↓r_rg1, ↓rs0, ↓rsS, ↓ite_dec, ↓ite_ndec, ↓put_put, startD, List.length_cons, List.length_nil, and_assoc, and_true, true_and, and_self, or_self, or_false, false_or, or_true, true_or, decide_eq_true_eq, decide_true, decide_false, Bool.not_true, Bool.not_false, Bool.false_eq_true, if_true, if_false, ↓reduceIte, ne_eq, Nat.reduceLeDiff, Nat.reduceAdd, not_false_eq_true, not_true_eq_false, reduceCtorEq, Option.some.injEq, Int.reduceToNat, Int.reducePow, Int.reduceAdd, Int.reduceMul, Int.reduceSub, Int.reduceNeg, Int.reduceEq, List.nil_append, List.cons_append, ↓r_keep, ↓r_isExc, ↓r_indexM, ↓r_lstL, ↓r_eqF, ↓r_neF, ↓r_eqM, ↓r_neM, ↓r_isiFr, ↓r_eqB, ↓r_neB, beq_self_eq_true, ↓r_cutO, ↓r_cutOL, ↓r_cutOP])
    exact ⟨rfl, h' h0⟩
def pr_law : DSp := fun ds μ P _ => ∃ xs : List Int, ds = [.ro (xs.map D.int)] ∧ ∀ μ', P (.bl true) μ'
theorem len_law : ∀ ds μ P PX, pr_law ds μ P PX → ds.length = (["_law_script"] : List Str).length := by
  rintro ds μ P PX ⟨xs, rfl, _⟩
  rfl
theorem law_fin {n : Nat} {ns : List Int} {μ : Mu} {P : DK} {PX : Value → XD → Mu → Prop} (_ : ns.length ≤ n) (h : ∀ μ', P (.bl true) μ') : pr_law [.ro (ns.map D.int)] μ P PX := ⟨ns, rfl, h⟩
theorem ok_law {P : Program} {w : World} {K : PySem.W.Frag} {mg : Str → Option Value} {base : Heap} {f : Addr} {fd : FuncData} {a_NoFraction : Addr}
    (F : Fun K "law" "law" s_law f fd)
    (d__law_purse : Df P w K mg base "_law_purse" ["_law_cell", "_law_k"] 2 pr__law_purse)
    (d__law_at : Df P w K mg base "_law_at" ["_law_script", "_law_k"] 1 pr__law_at)
    (d__law_any : Df P w K mg base "_law_any" ["_law_purse_here"] 5 pr__law_any)
    (d__law_number : Df P w K mg base "_law_number" ["_law_purse_here"] 3 pr__law_number)
    (d_moved_by : Df P w K mg base "moved_by" ["moment", "by"] 5 pr_moved_by)
    (d__law_moved : Df P w K mg base "_law_moved" ["_law_moment_here", "_law_by_here"] 4 pr__law_moved)
    (d__law_told : Df P w K mg base "_law_told" ["_law_moment_here", "_law_by_here"] 5 (pr__law_told a_NoFraction))
    (d__law_grown : Df P w K mg base "_law_grown" ["_law_moment_here", "_law_by_here"] 4 pr__law_grown)
    (d_grown_by : Df P w K mg base "grown_by" ["moment", "by"] 4 pr_grown_by)
    (d__law_low : Df P w K mg base "_law_low" ["_law_top", "_law_bottom"] 1 pr__law_low)
    (m_str : mg "str" = none)
    (m_range : mg "range" = none)
    (m_len : mg "len" = none)
    (m_min : mg "min" = none) : FnTop P w K mg base (L2.CX P w) 6 f fd ["_law_script"] (spD K pr_law) := by
  have nd := sc_law.nd
  refine top_D (k := 5) F sc_law len_law (by decide) (fun cdv A outer s H E PX hgd hr tk hp => ⟨_, (sd_cons (sd_range1 hp rfl rfl m_range (da_cons (pd_add pd_int (pd_min2 rfl rfl m_min (da_cons (pd_len (by rfl) m_len (da_cons (vr 0) da_nil)) (da_cons pd_int da_nil)))) da_nil) (gd_name 1 nd)
       (sd_cons (sd_set 2 nd (pd_call d__law_purse tk hr (by rfl) (da_cons (pd_call d__law_at tk hr (by rfl) (da_cons (vr 0) (da_cons (vr 1) da_nil))) (da_cons (vr 1) da_nil))))
       (sd_cons (sd_set 3 nd (pd_call d__law_any tk hr (by rfl) (da_cons (vr 2) da_nil)))
       (sd_cons (sd_set 4 nd (pd_call d__law_number tk hr (by rfl) (da_cons (vr 2) da_nil)))
       (sd_cons (sd_set 5 nd (pd_call d_moved_by tk hr (by rfl) (da_cons (vr 3) (da_cons (vr 4) da_nil))))
       (sd_cons (sd_if (pt_w (dw_or (pt_ne hr.units (pd_str1 hr hgd (by rfl) m_str (da_cons (vr 5) da_nil)) (pd_str1 hr hgd (by rfl) m_str (da_cons (pd_call d__law_moved tk hr (by rfl) (da_cons (vr 3) (da_cons (vr 4) da_nil))) da_nil))) (dw_or1 (pt_ne hr.units (pd_call d_moved_by tk hr (by rfl) (da_cons (vr 5) (da_cons (pd_tup (da_cons (pd_sub pd_int (pd_ix (vr 4) pd_int)) (da_cons (pd_ix (vr 4) pd_int) da_nil))) da_nil))) (vr 3)))))
        (sd_one (sd_ret pd_bl))
        sd_nil)
       (sd_cons (sd_set 6 nd (pd_call d__law_told tk hr (by rfl) (da_cons (vr 3) (da_cons (vr 4) da_nil))))
       (sd_cut (sd_if (pt_w (dw_and (pt_eq hr.units (pd_ix (vr 4) pd_int) pd_int) (dw_and1 (pt_ne hr.units (vr 6) pd_str))))
        (sd_one (sd_ret pd_bl))
        sd_nil)
       (sd_one (sd_if (pt_ne hr.units (pd_ix (vr 4) pd_int) pd_int)
        (sd_cons (sd_if (pt_ne hr.units (pd_str1 hr hgd (by rfl) m_str (da_cons (vr 6) da_nil)) (pd_str1 hr hgd (by rfl) m_str (da_cons (pd_call d__law_grown tk hr (by rfl) (da_cons (vr 3) (da_cons (vr 4) da_nil))) da_nil)))
         (sd_one (sd_ret pd_bl))
         sd_nil)
        (sd_one (sd_if (pt_ne hr.units (pd_call d_grown_by tk hr (by rfl) (da_cons (vr 6) (da_cons (pd_call d__law_low tk hr (by rfl) (da_cons (pd_ix (vr 4) pd_int) (da_cons (pd_ix (vr 4) pd_int) da_nil))) da_nil))) (vr 3))
         (sd_one (sd_ret pd_bl))
         sd_nil)))
        sd_nil))))))))))
      (sd_one (sd_ret pd_bl)))⟩) ?_
  rintro ds μ P PX ⟨xs, rfl, h⟩
  (try simp only [↓r_wm1, ↓r_wm2, ↓r_wm3, ↓r_wm4, ↓r_forT, ↓r_forI, ↓r_fU0, ↓r_fU1, ↓r_turn, ↓r_yes, ↓r_ofrz, ↓r_oown, ↓r_w0, ↓r_w1, ↓r_w2, ↓r_w3, ↓r_w4, ↓r_lcT, ↓r_lcI, ↓r_lcR, ↓r_cU0, ↓r_cU1, ↓r_s0, ↓r_n0, ↓r_s1, ↓r_n1, ↓r_s2, ↓r_n2, ↓r_s3, ↓r_n3, ↓r_s4, ↓r_n4, ↓r_s5, ↓r_n5, ↓r_s6, ↓r_n6, ↓r_s7, ↓r_n7, ↓r_s8, ↓r_n8, ↓r_s9, ↓r_n9, ↓r_s10, ↓r_n10, ↓r_s11, ↓r_n11, ↓r_s12, ↓r_n12, ↓r_s13, ↓r_n13, ↓r_s14, ↓r_n14, ↓r_s15, ↓r_n15, ↓r_s16, ↓r_n16, ↓r_s17, ↓r_n17, ↓r_s18, ↓r_n18, ↓r_s19, ↓r_n19, ↓r_s20, ↓r_n20, ↓r_s21, ↓r_n21, ↓r_s22, ↓r_n22, ↓r_s23, ↓r_n23, ↓r_s24, ↓r_n24, ↓r_s25, ↓r_n25, ↓r_fr0, ↓r_fr1, ↓r_frL, ↓r_frN, ↓r_frNN, ↓r_max3, ↓r_seq, ↓r_next, ↓r_var0, ↓r_varS, ↓r_c, ↓r_op, ↓r_addI, ↓r_addS, ↓r_addT, ↓r_addL, ↓r_sub, ↓r_mul, ↓r_div, ↓r_mod, ↓r_pow, ↓r_lt, ↓r_le, ↓r_gt, ↓r_ge, ↓r_eqI, ↓r_neI, ↓r_isN, ↓r_isT, ↓r_isI, ↓r_isR, ↓r_inN, ↓r_inT, ↓r_inI, ↓r_ixT, ↓r_ixLs, ↓r_ixRo, ↓r_ixP, ↓r_at0, ↓r_at1, ↓r_at2, ↓r_at3, ↓r_neg, ↓r_negC, ↓r_b, ↓r_bl, ↓r_and, ↓r_or, ↓r_not, ↓r_andV, ↓r_orV, ↓r_notV, ↓r_bl', ↓r_if, ↓r_ifS, ↓r_asg, ↓r_name, ↓r_jnil, ↓r_jcons, ↓r_jtup, ↓r_jlst, ↓r_jlstP, ↓r_jsub, ↓r_jcut, ↓r_jcutP, ↓r_jcutA, ↓r_in2, ↓r_stP, ↓r_st0, ↓r_st1, ↓r_st2, ↓r_par, ↓r_ret, ↓r_retN, ↓r_drop, ↓r_brk, ↓r_cont, ↓r_raise, ↓r_nil, ↓r_cons, ↓r_tup, ↓r_lst, ↓r_new, ↓r_frz, ↓r_frzP, ↓r_cb, ↓r_call, ↓r_abs, ↓r_max, ↓r_min, ↓r_intI, ↓r_intB, ↓r_lenT, ↓r_lenL, ↓r_lenR, ↓r_lenP, ↓r_listL, ↓r_listR, ↓r_listOL, ↓r_tupleL, ↓r_tupleP, ↓r_isiII, ↓r_isiIB, ↓r_isiBI, ↓r_isiBB, ↓r_isiTT, ↓r_isiLL, ↓r_app, ↓r_appP, ↓r_clr, ↓r_clrP, ↓r_lstP, ↓r_cut, ↓r_onone, ↓r_osome, ↓r_int', ↓r_cutT, ↓r_cutLs, ↓r_cutP, ↓r_range1, ↓r_rg1, ↓rs0, ↓rsS, ↓ite_dec, ↓ite_ndec, ↓put_put, startD, List.length_cons, List.length_nil, and_assoc, and_true, true_and, and_self, or_self, or_false, false_or, or_true, true_or, decide_eq_true_eq, decide_true, decide_false, Bool.not_true, Bool.not_false, Bool.false_eq_true, if_true, if_false, ↓reduceIte, ne_eq, Nat.reduceLeDiff, Nat.reduceAdd, not_false_eq_true, not_true_eq_false, reduceCtorEq, Option.some.injEq, Int.reduceToNat, Int.reducePow, Int.reduceAdd, Int.reduceMul, Int.reduceSub, Int.reduceNeg, Int.reduceEq, List.nil_append, List.cons_append, ↓r_keep, ↓r_isExc, ↓r_indexM, ↓r_lstL, ↓r_eqF, ↓r_neF, ↓r_eqM, ↓r_neM, ↓r_isiFr, ↓r_eqB, ↓r_neB, beq_self_eq_true, ↓r_cutO, ↓r_cutOL, ↓r_cutOP])
  refine ⟨by omega, by omega, fun i ρ μ' => ∃ x1 x2 x3 x4 x5 x6 : Option D, ρ = [some (.ro (xs.map D.int)), x1, x2, x3, x4, x5, x6], ⟨_, _, _, _, _, _, rfl⟩, ?_, ?_⟩
  · rintro i ρ μ1 hi ⟨x1, x2, x3, x4, x5, x6, rfl⟩
    have hi2 : i ≤ 20 := by omega
    (try simp only [↓r_wm1, ↓r_wm2, ↓r_wm3, ↓r_wm4, ↓r_forT, ↓r_forI, ↓r_fU0, ↓r_fU1, ↓r_turn, ↓r_yes, ↓r_ofrz, ↓r_oown, ↓r_w0, ↓r_w1, ↓r_w2, ↓r_w3, ↓r_w4, ↓r_lcT, ↓r_lcI, ↓r_lcR, ↓r_cU0, ↓r_cU1, ↓r_s0, ↓r_n0, ↓r_s1, ↓r_n1, ↓r_s2, ↓r_n2, ↓r_s3, ↓r_n3, ↓r_s4, ↓r_n4, ↓r_s5, ↓r_n5, ↓r_s6, ↓r_n6, ↓r_s7, ↓r_n7, ↓r_s8, ↓r_n8, ↓r_s9, ↓r_n9, ↓r_s10, ↓r_n10, ↓r_s11, ↓r_n11, ↓r_s12, ↓r_n12, ↓r_s13, ↓r_n13, ↓r_s14, ↓r_n14, ↓r_s15, ↓r_n15, ↓r_s16, ↓r_n16, ↓r_s17, ↓r_n17, ↓r_s18, ↓r_n18, ↓r_s19, ↓r_n19, ↓r_s20, ↓r_n20, ↓r_s21, ↓r_n21, ↓r_s22, ↓r_n22, ↓r_s23, ↓r_n23, ↓r_s24, ↓r_n24, ↓r_s25, ↓r_n25, ↓r_fr0, ↓r_fr1, ↓r_frL, ↓r_frN, ↓r_frNN, ↓r_max3, ↓r_seq, ↓r_next, ↓r_var0, ↓r_varS, ↓r_c, ↓r_op, ↓r_addI, ↓r_addS, ↓r_addT, ↓r_addL, ↓r_sub, ↓r_mul, ↓r_div, ↓r_mod, ↓r_pow, ↓r_lt, ↓r_le, ↓r_gt, ↓r_ge, ↓r_eqI, ↓r_neI, ↓r_isN, ↓r_isT, ↓r_isI, ↓r_isR, ↓r_inN, ↓r_inT, ↓r_inI, ↓r_ixT, ↓r_ixLs, ↓r_ixRo, ↓r_ixP, ↓r_at0, ↓r_at1, ↓r_at2, ↓r_at3, ↓r_neg, ↓r_negC, ↓r_b, ↓r_bl, ↓r_and, ↓r_or, ↓r_not, ↓r_andV, ↓r_orV, ↓r_notV, ↓r_bl', ↓r_if, ↓r_ifS, ↓r_asg, ↓r_name, ↓r_jnil, ↓r_jcons, ↓r_jtup, ↓r_jlst, ↓r_jlstP, ↓r_jsub, ↓r_jcut, ↓r_jcutP, ↓r_jcutA, ↓r_in2, ↓r_stP, ↓r_st0, ↓r_st1, ↓r_st2, ↓r_par, ↓r_ret, ↓r_retN, ↓r_drop, ↓r_brk, ↓r_cont, ↓r_raise, ↓r_nil, ↓r_cons, ↓r_tup, ↓r_lst, ↓r_new, ↓r_frz, ↓r_frzP, ↓r_cb, ↓r_call, ↓r_abs, ↓r_max, ↓r_min, ↓r_intI, ↓r_intB, ↓r_lenT, ↓r_lenL, ↓r_lenR, ↓r_lenP, ↓r_listL, ↓r_listR, ↓r_listOL, ↓r_tupleL, ↓r_tupleP, ↓r_isiII, ↓r_isiIB, ↓r_isiBI, ↓r_isiBB, ↓r_isiTT, ↓r_isiLL, ↓r_app, ↓r_appP, ↓r_clr, ↓r_clrP, ↓r_lstP, ↓r_cut, ↓r_onone, ↓r_osome, ↓r_int', ↓r_cutT, ↓r_cutLs, ↓r_cutP, ↓r_range1, ↓r_rg1, ↓rs0, ↓rsS, ↓ite_dec, ↓ite_ndec, ↓put_put, startD, List.length_cons, List.length_nil, and_assoc, and_true, true_and, and_self, or_self, or_false, false_or, or_true, true_or, decide_eq_true_eq, decide_true, decide_false, Bool.not_true, Bool.not_false, Bool.false_eq_true, if_true, if_false, ↓reduceIte, ne_eq, Nat.reduceLeDiff, Nat.reduceAdd, not_false_eq_true, not_true_eq_false, reduceCtorEq, Option.some.injEq, Int.reduceToNat, Int.reducePow, Int.reduceAdd, Int.reduceMul, Int.reduceSub, Int.reduceNeg, Int.reduceEq, List.nil_append, List.cons_append, ↓r_keep, ↓r_isExc, ↓r_indexM, ↓r_lstL, ↓r_eqF, ↓r_neF, ↓r_eqM, ↓r_neM, ↓r_isiFr, ↓r_eqB, ↓r_neB, beq_self_eq_true, ↓r_cutO, ↓r_cutOL, ↓r_cutOP])
    refine ⟨xs, _, rfl, by omega, by omega, fun cell => ?_⟩
    (try simp only [↓r_wm1, ↓r_wm2, ↓r_wm3, ↓r_wm4, ↓r_forT, ↓r_forI, ↓r_fU0, ↓r_fU1, ↓r_turn, ↓r_yes, ↓r_ofrz, ↓r_oown, ↓r_w0, ↓r_w1, ↓r_w2, ↓r_w3, ↓r_w4, ↓r_lcT, ↓r_lcI, ↓r_lcR, ↓r_cU0, ↓r_cU1, ↓r_s0, ↓r_n0, ↓r_s1, ↓r_n1, ↓r_s2, ↓r_n2, ↓r_s3, ↓r_n3, ↓r_s4, ↓r_n4, ↓r_s5, ↓r_n5, ↓r_s6, ↓r_n6, ↓r_s7, ↓r_n7, ↓r_s8, ↓r_n8, ↓r_s9, ↓r_n9, ↓r_s10, ↓r_n10, ↓r_s11, ↓r_n11, ↓r_s12, ↓r_n12, ↓r_s13, ↓r_n13, ↓r_s14, ↓r_n14, ↓r_s15, ↓r_n15, ↓r_s16, ↓r_n16, ↓r_s17, ↓r_n17, ↓r_s18, ↓r_n18, ↓r_s19, ↓r_n19, ↓r_s20, ↓r_n20, ↓r_s21, ↓r_n21, ↓r_s22, ↓r_n22, ↓r_s23, ↓r_n23, ↓r_s24, ↓r_n24, ↓r_s25, ↓r_n25, ↓r_fr0, ↓r_fr1, ↓r_frL, ↓r_frN, ↓r_frNN, ↓r_max3, ↓r_seq, ↓r_next, ↓r_var0, ↓r_varS, ↓r_c, ↓r_op, ↓r_addI, ↓r_addS, ↓r_addT, ↓r_addL, ↓r_sub, ↓r_mul, ↓r_div, ↓r_mod, ↓r_pow, ↓r_lt, ↓r_le, ↓r_gt, ↓r_ge, ↓r_eqI, ↓r_neI, ↓r_isN, ↓r_isT, ↓r_isI, ↓r_isR, ↓r_inN, ↓r_inT, ↓r_inI, ↓r_ixT, ↓r_ixLs, ↓r_ixRo, ↓r_ixP, ↓r_at0, ↓r_at1, ↓r_at2, ↓r_at3, ↓r_neg, ↓r_negC, ↓r_b, ↓r_bl, ↓r_and, ↓r_or, ↓r_not, ↓r_andV, ↓r_orV, ↓r_notV, ↓r_bl', ↓r_if, ↓r_ifS, ↓r_asg, ↓r_name, ↓r_jnil, ↓r_jcons, ↓r_jtup, ↓r_jlst, ↓r_jlstP, ↓r_jsub, ↓r_jcut, ↓r_jcutP, ↓r_jcutA, ↓r_in2, ↓r_stP, ↓r_st0, ↓r_st1, ↓r_st2, ↓r_par, ↓r_ret, ↓r_retN, ↓r_drop, ↓r_brk, ↓r_cont, ↓r_raise, ↓r_nil, ↓r_cons, ↓r_tup, ↓r_lst, ↓r_new, ↓r_frz, ↓r_frzP, ↓r_cb, ↓r_call, ↓r_abs, ↓r_max, ↓r_min, ↓r_intI, ↓r_intB, ↓r_lenT, ↓r_lenL, ↓r_lenR, ↓r_lenP, ↓r_listL, ↓r_listR, ↓r_listOL, ↓r_tupleL, ↓r_tupleP, ↓r_isiII, ↓r_isiIB, ↓r_isiBI, ↓r_isiBB, ↓r_isiTT, ↓r_isiLL, ↓r_app, ↓r_appP, ↓r_clr, ↓r_clrP, ↓r_lstP, ↓r_cut, ↓r_onone, ↓r_osome, ↓r_int', ↓r_cutT, ↓r_cutLs, ↓r_cutP, ↓r_range1, ↓r_rg1, ↓rs0, ↓rsS, ↓ite_dec, ↓ite_ndec, ↓put_put, startD, List.length_cons, List.length_nil, and_assoc, and_true, true_and, and_self, or_self, or_false, false_or, or_true, true_or, decide_eq_true_eq, decide_true, decide_false, Bool.not_true, Bool.not_false, Bool.false_eq_true, if_true, if_false, ↓reduceIte, ne_eq, Nat.reduceLeDiff, Nat.reduceAdd, not_false_eq_true, not_true_eq_false, reduceCtorEq, Option.some.injEq, Int.reduceToNat, Int.reducePow, Int.reduceAdd, Int.reduceMul, Int.reduceSub, Int.reduceNeg, Int.reduceEq, List.nil_append, List.cons_append, ↓r_keep, ↓r_isExc, ↓r_indexM, ↓r_lstL, ↓r_eqF, ↓r_neF, ↓r_eqM, ↓r_neM, ↓r_isiFr, ↓r_eqB, ↓r_neB, beq_self_eq_true, ↓r_cutO, ↓r_cutOL, ↓r_cutOP])
    refine ⟨_, _, rfl, by omega, by omega, fun p d0 hp0 hp => ?_⟩
    (try simp only [↓r_wm1, ↓r_wm2, ↓r_wm3, ↓r_wm4, ↓r_forT, ↓r_forI, ↓r_fU0, ↓r_fU1, ↓r_turn, ↓r_yes, ↓r_ofrz, ↓r_oown, ↓r_w0, ↓r_w1, ↓r_w2, ↓r_w3, ↓r_w4, ↓r_lcT, ↓r_lcI, ↓r_lcR, ↓r_cU0, ↓r_cU1, ↓r_s0, ↓r_n0, ↓r_s1, ↓r_n1, ↓r_s2, ↓r_n2, ↓r_s3, ↓r_n3, ↓r_s4, ↓r_n4, ↓r_s5, ↓r_n5, ↓r_s6, ↓r_n6, ↓r_s7, ↓r_n7, ↓r_s8, ↓r_n8, ↓r_s9, ↓r_n9, ↓r_s10, ↓r_n10, ↓r_s11, ↓r_n11, ↓r_s12, ↓r_n12, ↓r_s13, ↓r_n13, ↓r_s14, ↓r_n14, ↓r_s15, ↓r_n15, ↓r_s16, ↓r_n16, ↓r_s17, ↓r_n17, ↓r_s18, ↓r_n18, ↓r_s19, ↓r_n19, ↓r_s20, ↓r_n20, ↓r_s21, ↓r_n21, ↓r_s22, ↓r_n22, ↓r_s23, ↓r_n23, ↓r_s24, ↓r_n24, ↓r_s25, ↓r_n25, ↓r_fr0, ↓r_fr1, ↓r_frL, ↓r_frN, ↓r_frNN, ↓r_max3, ↓r_seq, ↓r_next, ↓r_var0, ↓r_varS, ↓r_c, ↓r_op, ↓r_addI, ↓r_addS, ↓r_addT, ↓r_addL, ↓r_sub, ↓r_mul, ↓r_div, ↓r_mod, ↓r_pow, ↓r_lt, ↓r_le, ↓r_gt, ↓r_ge, ↓r_eqI, ↓r_neI, ↓r_isN, ↓r_isT, ↓r_isI, ↓r_isR, ↓r_inN, ↓r_inT, ↓r_inI, ↓r_ixT, ↓r_ixLs, ↓r_ixRo, ↓r_ixP, ↓r_at0, ↓r_at1, ↓r_at2, ↓r_at3, ↓r_neg, ↓r_negC, ↓r_b, ↓r_bl, ↓r_and, ↓r_or, ↓r_not, ↓r_andV, ↓r_orV, ↓r_notV, ↓r_bl', ↓r_if, ↓r_ifS, ↓r_asg, ↓r_name, ↓r_jnil, ↓r_jcons, ↓r_jtup, ↓r_jlst, ↓r_jlstP, ↓r_jsub, ↓r_jcut, ↓r_jcutP, ↓r_jcutA, ↓r_in2, ↓r_stP, ↓r_st0, ↓r_st1, ↓r_st2, ↓r_par, ↓r_ret, ↓r_retN, ↓r_drop, ↓r_brk, ↓r_cont, ↓r_raise, ↓r_nil, ↓r_cons, ↓r_tup, ↓r_lst, ↓r_new, ↓r_frz, ↓r_frzP, ↓r_cb, ↓r_call, ↓r_abs, ↓r_max, ↓r_min, ↓r_intI, ↓r_intB, ↓r_lenT, ↓r_lenL, ↓r_lenR, ↓r_lenP, ↓r_listL, ↓r_listR, ↓r_listOL, ↓r_tupleL, ↓r_tupleP, ↓r_isiII, ↓r_isiIB, ↓r_isiBI, ↓r_isiBB, ↓r_isiTT, ↓r_isiLL, ↓r_app, ↓r_appP, ↓r_clr, ↓r_clrP, ↓r_lstP, ↓r_cut, ↓r_onone, ↓r_osome, ↓r_int', ↓r_cutT, ↓r_cutLs, ↓r_cutP, ↓r_range1, ↓r_rg1, ↓rs0, ↓rsS, ↓ite_dec, ↓ite_ndec, ↓put_put, startD, List.length_cons, List.length_nil, and_assoc, and_true, true_and, and_self, or_self, or_false, false_or, or_true, true_or, decide_eq_true_eq, decide_true, decide_false, Bool.not_true, Bool.not_false, Bool.false_eq_true, if_true, if_false, ↓reduceIte, ne_eq, Nat.reduceLeDiff, Nat.reduceAdd, not_false_eq_true, not_true_eq_false, reduceCtorEq, Option.some.injEq, Int.reduceToNat, Int.reducePow, Int.reduceAdd, Int.reduceMul, Int.reduceSub, Int.reduceNeg, Int.reduceEq, List.nil_append, List.cons_append, ↓r_keep, ↓r_isExc, ↓r_indexM, ↓r_lstL, ↓r_eqF, ↓r_neF, ↓r_eqM, ↓r_neM, ↓r_isiFr, ↓r_eqB, ↓r_neB, beq_self_eq_true, ↓r_cutO, ↓r_cutOL, ↓r_cutOP])
    refine ⟨p, _, rfl, hp, by decide, fun m d1 m1 m2 h1 => ?_⟩
    (try simp only [↓r_wm1, ↓r_wm2, ↓r_wm3, ↓r_wm4, ↓r_forT, ↓r_forI, ↓r_fU0, ↓r_fU1, ↓r_turn, ↓r_yes, ↓r_ofrz, ↓r_oown, ↓r_w0, ↓r_w1, ↓r_w2, ↓r_w3, ↓r_w4, ↓r_lcT, ↓r_lcI, ↓r_lcR, ↓r_cU0, ↓r_cU1, ↓r_s0, ↓r_n0, ↓r_s1, ↓r_n1, ↓r_s2, ↓r_n2, ↓r_s3, ↓r_n3, ↓r_s4, ↓r_n4, ↓r_s5, ↓r_n5, ↓r_s6, ↓r_n6, ↓r_s7, ↓r_n7, ↓r_s8, ↓r_n8, ↓r_s9, ↓r_n9, ↓r_s10, ↓r_n10, ↓r_s11, ↓r_n11, ↓r_s12, ↓r_n12, ↓r_s13, ↓r_n13, ↓r_s14, ↓r_n14, ↓r_s15, ↓r_n15, ↓r_s16, ↓r_n16, ↓r_s17, ↓r_n17, ↓r_s18, ↓r_n18, ↓r_s19, ↓r_n19, ↓r_s20, ↓r_n20, ↓r_s21, ↓r_n21, ↓r_s22, ↓r_n22, ↓r_s23, ↓r_n23, ↓r_s24, ↓r_n24, ↓r_s25, ↓r_n25, ↓r_fr0, ↓r_fr1, ↓r_frL, ↓r_frN, ↓r_frNN, ↓r_max3, ↓r_seq, ↓r_next, ↓r_var0, ↓r_varS, ↓r_c, ↓r_op, ↓r_addI, ↓r_addS, ↓r_addT, ↓r_addL, ↓r_sub, ↓r_mul, ↓r_div, ↓r_mod, ↓r_pow, ↓r_lt, ↓r_le, ↓r_gt, ↓r_ge, ↓r_eqI, ↓r_neI, ↓r_isN, ↓r_isT, ↓r_isI, ↓r_isR, ↓r_inN, ↓r_inT, ↓r_inI, ↓r_ixT, ↓r_ixLs, ↓r_ixRo, ↓r_ixP, ↓r_at0, ↓r_at1, ↓r_at2, ↓r_at3, ↓r_neg, ↓r_negC, ↓r_b, ↓r_bl, ↓r_and, ↓r_or, ↓r_not, ↓r_andV, ↓r_orV, ↓r_notV, ↓r_bl', ↓r_if, ↓r_ifS, ↓r_asg, ↓r_name, ↓r_jnil, ↓r_jcons, ↓r_jtup, ↓r_jlst, ↓r_jlstP, ↓r_jsub, ↓r_jcut, ↓r_jcutP, ↓r_jcutA, ↓r_in2, ↓r_stP, ↓r_st0, ↓r_st1, ↓r_st2, ↓r_par, ↓r_ret, ↓r_retN, ↓r_drop, ↓r_brk, ↓r_cont, ↓r_raise, ↓r_nil, ↓r_cons, ↓r_tup, ↓r_lst, ↓r_new, ↓r_frz, ↓r_frzP, ↓r_cb, ↓r_call, ↓r_abs, ↓r_max, ↓r_min, ↓r_intI, ↓r_intB, ↓r_lenT, ↓r_lenL, ↓r_lenR, ↓r_lenP, ↓r_listL, ↓r_listR, ↓r_listOL, ↓r_tupleL, ↓r_tupleP, ↓r_isiII, ↓r_isiIB, ↓r_isiBI, ↓r_isiBB, ↓r_isiTT, ↓r_isiLL, ↓r_app, ↓r_appP, ↓r_clr, ↓r_clrP, ↓r_lstP, ↓r_cut, ↓r_onone, ↓r_osome, ↓r_int', ↓r_cutT, ↓r_cutLs, ↓r_cutP, ↓r_range1, ↓r_rg1, ↓rs0, ↓rsS, ↓ite_dec, ↓ite_ndec, ↓put_put, startD, List.length_cons, List.length_nil, and_assoc, and_true, true_and, and_self, or_self, or_false, false_or, or_true, true_or, decide_eq_true_eq, decide_true, decide_false, Bool.not_true, Bool.not_false, Bool.false_eq_true, if_true, if_false, ↓reduceIte, ne_eq, Nat.reduceLeDiff, Nat.reduceAdd, not_false_eq_true, not_true_eq_false, reduceCtorEq, Option.some.injEq, Int.reduceToNat, Int.reducePow, Int.reduceAdd, Int.reduceMul, Int.reduceSub, Int.reduceNeg, Int.reduceEq, List.nil_append, List.cons_append, ↓r_keep, ↓r_isExc, ↓r_indexM, ↓r_lstL, ↓r_eqF, ↓r_neF, ↓r_eqM, ↓r_neM, ↓r_isiFr, ↓r_eqB, ↓r_neB, beq_self_eq_true, ↓r_cutO, ↓r_cutOL, ↓r_cutOP])
    refine ⟨p, _, rfl, h1.put, by decide, fun q d2 q1 q2 h2 => ?_⟩
    have m1 : m.Ok 80 := m1
    have bq := q2.mono (n := 80) (by decide)
    have k1 := movM_ok m1 q1 bq
    have k2 := grwM_ok m1 q1 bq
    have s1 := shw_mom k1 (by decide)
    have s2 := shw_mom k2 (by decide)
    (try simp only [↓r_wm1, ↓r_wm2, ↓r_wm3, ↓r_wm4, ↓r_forT, ↓r_forI, ↓r_fU0, ↓r_fU1, ↓r_turn, ↓r_yes, ↓r_ofrz, ↓r_oown, ↓r_w0, ↓r_w1, ↓r_w2, ↓r_w3, ↓r_w4, ↓r_lcT, ↓r_lcI, ↓r_lcR, ↓r_cU0, ↓r_cU1, ↓r_s0, ↓r_n0, ↓r_s1, ↓r_n1, ↓r_s2, ↓r_n2, ↓r_s3, ↓r_n3, ↓r_s4, ↓r_n4, ↓r_s5, ↓r_n5, ↓r_s6, ↓r_n6, ↓r_s7, ↓r_n7, ↓r_s8, ↓r_n8, ↓r_s9, ↓r_n9, ↓r_s10, ↓r_n10, ↓r_s11, ↓r_n11, ↓r_s12, ↓r_n12, ↓r_s13, ↓r_n13, ↓r_s14, ↓r_n14, ↓r_s15, ↓r_n15, ↓r_s16, ↓r_n16, ↓r_s17, ↓r_n17, ↓r_s18, ↓r_n18, ↓r_s19, ↓r_n19, ↓r_s20, ↓r_n20, ↓r_s21, ↓r_n21, ↓r_s22, ↓r_n22, ↓r_s23, ↓r_n23, ↓r_s24, ↓r_n24, ↓r_s25, ↓r_n25, ↓r_fr0, ↓r_fr1, ↓r_frL, ↓r_frN, ↓r_frNN, ↓r_max3, ↓r_seq, ↓r_next, ↓r_var0, ↓r_varS, ↓r_c, ↓r_op, ↓r_addI, ↓r_addS, ↓r_addT, ↓r_addL, ↓r_sub, ↓r_mul, ↓r_div, ↓r_mod, ↓r_pow, ↓r_lt, ↓r_le, ↓r_gt, ↓r_ge, ↓r_eqI, ↓r_neI, ↓r_isN, ↓r_isT, ↓r_isI, ↓r_isR, ↓r_inN, ↓r_inT, ↓r_inI, ↓r_ixT, ↓r_ixLs, ↓r_ixRo, ↓r_ixP, ↓r_at0, ↓r_at1, ↓r_at2, ↓r_at3, ↓r_neg, ↓r_negC, ↓r_b, ↓r_bl, ↓r_and, ↓r_or, ↓r_not, ↓r_andV, ↓r_orV, ↓r_notV, ↓r_bl', ↓r_if, ↓r_ifS, ↓r_asg, ↓r_name, ↓r_jnil, ↓r_jcons, ↓r_jtup, ↓r_jlst, ↓r_jlstP, ↓r_jsub, ↓r_jcut, ↓r_jcutP, ↓r_jcutA, ↓r_in2, ↓r_stP, ↓r_st0, ↓r_st1, ↓r_st2, ↓r_par, ↓r_ret, ↓r_retN, ↓r_drop, ↓r_brk, ↓r_cont, ↓r_raise, ↓r_nil, ↓r_cons, ↓r_tup, ↓r_lst, ↓r_new, ↓r_frz, ↓r_frzP, ↓r_cb, ↓r_call, ↓r_abs, ↓r_max, ↓r_min, ↓r_intI, ↓r_intB, ↓r_lenT, ↓r_lenL, ↓r_lenR, ↓r_lenP, ↓r_listL, ↓r_listR, ↓r_listOL, ↓r_tupleL, ↓r_tupleP, ↓r_isiII, ↓r_isiIB, ↓r_isiBI, ↓r_isiBB, ↓r_isiTT, ↓r_isiLL, ↓r_app, ↓r_appP, ↓r_clr, ↓r_clrP, ↓r_lstP, ↓r_cut, ↓r_onone, ↓r_osome, ↓r_int', ↓r_cutT, ↓r_cutLs, ↓r_cutP, ↓r_range1, ↓r_rg1, ↓rs0, ↓rsS, ↓ite_dec, ↓ite_ndec, ↓put_put, startD, List.length_cons, List.length_nil, and_assoc, and_true, true_and, and_self, or_self, or_false, false_or, or_true, true_or, decide_eq_true_eq, decide_true, decide_false, Bool.not_true, Bool.not_false, Bool.false_eq_true, if_true, if_false, ↓reduceIte, ne_eq, Nat.reduceLeDiff, Nat.reduceAdd, not_false_eq_true, not_true_eq_false, reduceCtorEq, Option.some.injEq, Int.reduceToNat, Int.reducePow, Int.reduceAdd, Int.reduceMul, Int.reduceSub, Int.reduceNeg, Int.reduceEq, List.nil_append, List.cons_append, ↓r_keep, ↓r_isExc, ↓r_indexM, ↓r_lstL, ↓r_eqF, ↓r_neF, ↓r_eqM, ↓r_neM, ↓r_isiFr, ↓r_eqB, ↓r_neB, beq_self_eq_true, ↓r_cutO, ↓r_cutOL, ↓r_cutOP])
    refine ⟨m, q, 80, rfl, m1, q1, bq, by decide, ?_⟩
    (try simp only [↓r_wm1, ↓r_wm2, ↓r_wm3, ↓r_wm4, ↓r_forT, ↓r_forI, ↓r_fU0, ↓r_fU1, ↓r_turn, ↓r_yes, ↓r_ofrz, ↓r_oown, ↓r_w0, ↓r_w1, ↓r_w2, ↓r_w3, ↓r_w4, ↓r_lcT, ↓r_lcI, ↓r_lcR, ↓r_cU0, ↓r_cU1, ↓r_s0, ↓r_n0, ↓r_s1, ↓r_n1, ↓r_s2, ↓r_n2, ↓r_s3, ↓r_n3, ↓r_s4, ↓r_n4, ↓r_s5, ↓r_n5, ↓r_s6, ↓r_n6, ↓r_s7, ↓r_n7, ↓r_s8, ↓r_n8, ↓r_s9, ↓r_n9, ↓r_s10, ↓r_n10, ↓r_s11, ↓r_n11, ↓r_s12, ↓r_n12, ↓r_s13, ↓r_n13, ↓r_s14, ↓r_n14, ↓r_s15, ↓r_n15, ↓r_s16, ↓r_n16, ↓r_s17, ↓r_n17, ↓r_s18, ↓r_n18, ↓r_s19, ↓r_n19, ↓r_s20, ↓r_n20, ↓r_s21, ↓r_n21, ↓r_s22, ↓r_n22, ↓r_s23, ↓r_n23, ↓r_s24, ↓r_n24, ↓r_s25, ↓r_n25, ↓r_fr0, ↓r_fr1, ↓r_frL, ↓r_frN, ↓r_frNN, ↓r_max3, ↓r_seq, ↓r_next, ↓r_var0, ↓r_varS, ↓r_c, ↓r_op, ↓r_addI, ↓r_addS, ↓r_addT, ↓r_addL, ↓r_sub, ↓r_mul, ↓r_div, ↓r_mod, ↓r_pow, ↓r_lt, ↓r_le, ↓r_gt, ↓r_ge, ↓r_eqI, ↓r_neI, ↓r_isN, ↓r_isT, ↓r_isI, ↓r_isR, ↓r_inN, ↓r_inT, ↓r_inI, ↓r_ixT, ↓r_ixLs, ↓r_ixRo, ↓r_ixP, ↓r_at0, ↓r_at1, ↓r_at2, ↓r_at3, ↓r_neg, ↓r_negC, ↓r_b, ↓r_bl, ↓r_and, ↓r_or, ↓r_not, ↓r_andV, ↓r_orV, ↓r_notV, ↓r_bl', ↓r_if, ↓r_ifS, ↓r_asg, ↓r_name, ↓r_jnil, ↓r_jcons, ↓r_jtup, ↓r_jlst, ↓r_jlstP, ↓r_jsub, ↓r_jcut, ↓r_jcutP, ↓r_jcutA, ↓r_in2, ↓r_stP, ↓r_st0, ↓r_st1, ↓r_st2, ↓r_par, ↓r_ret, ↓r_retN, ↓r_drop, ↓r_brk, ↓r_cont, ↓r_raise, ↓r_nil, ↓r_cons, ↓r_tup, ↓r_lst, ↓r_new, ↓r_frz, ↓r_frzP, ↓r_cb, ↓r_call, ↓r_abs, ↓r_max, ↓r_min, ↓r_intI, ↓r_intB, ↓r_lenT, ↓r_lenL, ↓r_lenR, ↓r_lenP, ↓r_listL, ↓r_listR, ↓r_listOL, ↓r_tupleL, ↓r_tupleP, ↓r_isiII, ↓r_isiIB, ↓r_isiBI, ↓r_isiBB, ↓r_isiTT, ↓r_isiLL, ↓r_app, ↓r_appP, ↓r_clr, ↓r_clrP, ↓r_lstP, ↓r_cut, ↓r_onone, ↓r_osome, ↓r_int', ↓r_cutT, ↓r_cutLs, ↓r_cutP, ↓r_range1, ↓r_rg1, ↓rs0, ↓rsS, ↓ite_dec, ↓ite_ndec, ↓put_put, startD, List.length_cons, List.length_nil, and_assoc, and_true, true_and, and_self, or_self, or_false, false_or, or_true, true_or, decide_eq_true_eq, decide_true, decide_false, Bool.not_true, Bool.not_false, Bool.false_eq_true, if_true, if_false, ↓reduceIte, ne_eq, Nat.reduceLeDiff, Nat.reduceAdd, not_false_eq_true, not_true_eq_false, reduceCtorEq, Option.some.injEq, Int.reduceToNat, Int.reducePow, Int.reduceAdd, Int.reduceMul, Int.reduceSub, Int.reduceNeg, Int.reduceEq, List.nil_append, List.cons_append, ↓r_keep, ↓r_isExc, ↓r_indexM, ↓r_lstL, ↓r_eqF, ↓r_neF, ↓r_eqM, ↓r_neM, ↓r_isiFr, ↓r_eqB, ↓r_neB, beq_self_eq_true, ↓r_cutO, ↓r_cutOL, ↓r_cutOP])
    have bn : FB 80 (0 - q.1, q.2) := ⟨bq.1.le (by show (0 - q.1).natAbs ≤ q.1.natAbs; omega), bq.2⟩
    (try simp only [↓r_wm1, ↓r_wm2, ↓r_wm3, ↓r_wm4, ↓r_forT, ↓r_forI, ↓r_fU0, ↓r_fU1, ↓r_turn, ↓r_yes, ↓r_ofrz, ↓r_oown, ↓r_w0, ↓r_w1, ↓r_w2, ↓r_w3, ↓r_w4, ↓r_lcT, ↓r_lcI, ↓r_lcR, ↓r_cU0, ↓r_cU1, ↓r_s0, ↓r_n0, ↓r_s1, ↓r_n1, ↓r_s2, ↓r_n2, ↓r_s3, ↓r_n3, ↓r_s4, ↓r_n4, ↓r_s5, ↓r_n5, ↓r_s6, ↓r_n6, ↓r_s7, ↓r_n7, ↓r_s8, ↓r_n8, ↓r_s9, ↓r_n9, ↓r_s10, ↓r_n10, ↓r_s11, ↓r_n11, ↓r_s12, ↓r_n12, ↓r_s13, ↓r_n13, ↓r_s14, ↓r_n14, ↓r_s15, ↓r_n15, ↓r_s16, ↓r_n16, ↓r_s17, ↓r_n17, ↓r_s18, ↓r_n18, ↓r_s19, ↓r_n19, ↓r_s20, ↓r_n20, ↓r_s21, ↓r_n21, ↓r_s22, ↓r_n22, ↓r_s23, ↓r_n23, ↓r_s24, ↓r_n24, ↓r_s25, ↓r_n25, ↓r_fr0, ↓r_fr1, ↓r_frL, ↓r_frN, ↓r_frNN, ↓r_max3, ↓r_seq, ↓r_next, ↓r_var0, ↓r_varS, ↓r_c, ↓r_op, ↓r_addI, ↓r_addS, ↓r_addT, ↓r_addL, ↓r_sub, ↓r_mul, ↓r_div, ↓r_mod, ↓r_pow, ↓r_lt, ↓r_le, ↓r_gt, ↓r_ge, ↓r_eqI, ↓r_neI, ↓r_isN, ↓r_isT, ↓r_isI, ↓r_isR, ↓r_inN, ↓r_inT, ↓r_inI, ↓r_ixT, ↓r_ixLs, ↓r_ixRo, ↓r_ixP, ↓r_at0, ↓r_at1, ↓r_at2, ↓r_at3, ↓r_neg, ↓r_negC, ↓r_b, ↓r_bl, ↓r_and, ↓r_or, ↓r_not, ↓r_andV, ↓r_orV, ↓r_notV, ↓r_bl', ↓r_if, ↓r_ifS, ↓r_asg, ↓r_name, ↓r_jnil, ↓r_jcons, ↓r_jtup, ↓r_jlst, ↓r_jlstP, ↓r_jsub, ↓r_jcut, ↓r_jcutP, ↓r_jcutA, ↓r_in2, ↓r_stP, ↓r_st0, ↓r_st1, ↓r_st2, ↓r_par, ↓r_ret, ↓r_retN, ↓r_drop, ↓r_brk, ↓r_cont, ↓r_raise, ↓r_nil, ↓r_cons, ↓r_tup, ↓r_lst, ↓r_new, ↓r_frz, ↓r_frzP, ↓r_cb, ↓r_call, ↓r_abs, ↓r_max, ↓r_min, ↓r_intI, ↓r_intB, ↓r_lenT, ↓r_lenL, ↓r_lenR, ↓r_lenP, ↓r_listL, ↓r_listR, ↓r_listOL, ↓r_tupleL, ↓r_tupleP, ↓r_isiII, ↓r_isiIB, ↓r_isiBI, ↓r_isiBB, ↓r_isiTT, ↓r_isiLL, ↓r_app, ↓r_appP, ↓r_clr, ↓r_clrP, ↓r_lstP, ↓r_cut, ↓r_onone, ↓r_osome, ↓r_int', ↓r_cutT, ↓r_cutLs, ↓r_cutP, ↓r_range1, ↓r_rg1, ↓rs0, ↓rsS, ↓ite_dec, ↓ite_ndec, ↓put_put, startD, List.length_cons, List.length_nil, and_assoc, and_true, true_and, and_self, or_self, or_false, false_or, or_true, true_or, decide_eq_true_eq, decide_true, decide_false, Bool.not_true, Bool.not_false, Bool.false_eq_true, if_true, if_false, ↓reduceIte, ne_eq, Nat.reduceLeDiff, Nat.reduceAdd, not_false_eq_true, not_true_eq_false, reduceCtorEq, Option.some.injEq, Int.reduceToNat, Int.reducePow, Int.reduceAdd, Int.reduceMul, Int.reduceSub, Int.reduceNeg, Int.reduceEq, List.nil_append, List.cons_append, ↓r_keep, ↓r_isExc, ↓r_indexM, ↓r_lstL, ↓r_eqF, ↓r_neF, ↓r_eqM, ↓r_neM, ↓r_isiFr, ↓r_eqB, ↓r_neB, beq_self_eq_true, ↓r_cutO, ↓r_cutOL, ↓r_cutOP, ↓r_str s1])
    refine ⟨m, q, 80, rfl, m1, q1, bq, by decide, ?_⟩
    (try simp only [↓r_wm1, ↓r_wm2, ↓r_wm3, ↓r_wm4, ↓r_forT, ↓r_forI, ↓r_fU0, ↓r_fU1, ↓r_turn, ↓r_yes, ↓r_ofrz, ↓r_oown, ↓r_w0, ↓r_w1, ↓r_w2, ↓r_w3, ↓r_w4, ↓r_lcT, ↓r_lcI, ↓r_lcR, ↓r_cU0, ↓r_cU1, ↓r_s0, ↓r_n0, ↓r_s1, ↓r_n1, ↓r_s2, ↓r_n2, ↓r_s3, ↓r_n3, ↓r_s4, ↓r_n4, ↓r_s5, ↓r_n5, ↓r_s6, ↓r_n6, ↓r_s7, ↓r_n7, ↓r_s8, ↓r_n8, ↓r_s9, ↓r_n9, ↓r_s10, ↓r_n10, ↓r_s11, ↓r_n11, ↓r_s12, ↓r_n12, ↓r_s13, ↓r_n13, ↓r_s14, ↓r_n14, ↓r_s15, ↓r_n15, ↓r_s16, ↓r_n16, ↓r_s17, ↓r_n17, ↓r_s18, ↓r_n18, ↓r_s19, ↓r_n19, ↓r_s20, ↓r_n20, ↓r_s21, ↓r_n21, ↓r_s22, ↓r_n22, ↓r_s23, ↓r_n23, ↓r_s24, ↓r_n24, ↓r_s25, ↓r_n25, ↓r_fr0, ↓r_fr1, ↓r_frL, ↓r_frN, ↓r_frNN, ↓r_max3, ↓r_seq, ↓r_next, ↓r_var0, ↓r_varS, ↓r_c, ↓r_op, ↓r_addI, ↓r_addS, ↓r_addT, ↓r_addL, ↓r_sub, ↓r_mul, ↓r_div, ↓r_mod, ↓r_pow, ↓r_lt, ↓r_le, ↓r_gt, ↓r_ge, ↓r_eqI, ↓r_neI, ↓r_isN, ↓r_isT, ↓r_isI, ↓r_isR, ↓r_inN, ↓r_inT, ↓r_inI, ↓r_ixT, ↓r_ixLs, ↓r_ixRo, ↓r_ixP, ↓r_at0, ↓r_at1, ↓r_at2, ↓r_at3, ↓r_neg, ↓r_negC, ↓r_b, ↓r_bl, ↓r_and, ↓r_or, ↓r_not, ↓r_andV, ↓r_orV, ↓r_notV, ↓r_bl', ↓r_if, ↓r_ifS, ↓r_asg, ↓r_name, ↓r_jnil, ↓r_jcons, ↓r_jtup, ↓r_jlst, ↓r_jlstP, ↓r_jsub, ↓r_jcut, ↓r_jcutP, ↓r_jcutA, ↓r_in2, ↓r_stP, ↓r_st0, ↓r_st1, ↓r_st2, ↓r_par, ↓r_ret, ↓r_retN, ↓r_drop, ↓r_brk, ↓r_cont, ↓r_raise, ↓r_nil, ↓r_cons, ↓r_tup, ↓r_lst, ↓r_new, ↓r_frz, ↓r_frzP, ↓r_cb, ↓r_call, ↓r_abs, ↓r_max, ↓r_min, ↓r_intI, ↓r_intB, ↓r_lenT, ↓r_lenL, ↓r_lenR, ↓r_lenP, ↓r_listL, ↓r_listR, ↓r_listOL, ↓r_tupleL, ↓r_tupleP, ↓r_isiII, ↓r_isiIB, ↓r_isiBI, ↓r_isiBB, ↓r_isiTT, ↓r_isiLL, ↓r_app, ↓r_appP, ↓r_clr, ↓r_clrP, ↓r_lstP, ↓r_cut, ↓r_onone, ↓r_osome, ↓r_int', ↓r_cutT, ↓r_cutLs, ↓r_cutP, ↓r_range1, ↓r_rg1, ↓rs0, ↓rsS, ↓ite_dec, ↓ite_ndec, ↓put_put, startD, List.length_cons, List.length_nil, and_assoc, and_true, true_and, and_self, or_self, or_false, false_or, or_true, true_or, decide_eq_true_eq, decide_true, decide_false, Bool.not_true, Bool.not_false, Bool.false_eq_true, if_true, if_false, ↓reduceIte, ne_eq, Nat.reduceLeDiff, Nat.reduceAdd, not_false_eq_true, not_true_eq_false, reduceCtorEq, Option.some.injEq, Int.reduceToNat, Int.reducePow, Int.reduceAdd, Int.reduceMul, Int.reduceSub, Int.reduceNeg, Int.reduceEq, List.nil_append, List.cons_append, ↓r_keep, ↓r_isExc, ↓r_indexM, ↓r_lstL, ↓r_eqF, ↓r_neF, ↓r_eqM, ↓r_neM, ↓r_isiFr, ↓r_eqB, ↓r_neB, beq_self_eq_true, ↓r_cutO, ↓r_cutOL, ↓r_cutOP, ↓r_str s1, ↓r_neSh s1])
    refine ⟨movM m q, (0 - q.1, q.2), 4 * 80 + 8, rfl, k1, fr_neg q1, bn.mono (by decide), by decide, ?_⟩
    rw [mov_back m1 m2 q1 bq]
    (try simp only [↓r_wm1, ↓r_wm2, ↓r_wm3, ↓r_wm4, ↓r_forT, ↓r_forI, ↓r_fU0, ↓r_fU1, ↓r_turn, ↓r_yes, ↓r_ofrz, ↓r_oown, ↓r_w0, ↓r_w1, ↓r_w2, ↓r_w3, ↓r_w4, ↓r_lcT, ↓r_lcI, ↓r_lcR, ↓r_cU0, ↓r_cU1, ↓r_s0, ↓r_n0, ↓r_s1, ↓r_n1, ↓r_s2, ↓r_n2, ↓r_s3, ↓r_n3, ↓r_s4, ↓r_n4, ↓r_s5, ↓r_n5, ↓r_s6, ↓r_n6, ↓r_s7, ↓r_n7, ↓r_s8, ↓r_n8, ↓r_s9, ↓r_n9, ↓r_s10, ↓r_n10, ↓r_s11, ↓r_n11, ↓r_s12, ↓r_n12, ↓r_s13, ↓r_n13, ↓r_s14, ↓r_n14, ↓r_s15, ↓r_n15, ↓r_s16, ↓r_n16, ↓r_s17, ↓r_n17, ↓r_s18, ↓r_n18, ↓r_s19, ↓r_n19, ↓r_s20, ↓r_n20, ↓r_s21, ↓r_n21, ↓r_s22, ↓r_n22, ↓r_s23, ↓r_n23, ↓r_s24, ↓r_n24, ↓r_s25, ↓r_n25, ↓r_fr0, ↓r_fr1, ↓r_frL, ↓r_frN, ↓r_frNN, ↓r_max3, ↓r_seq, ↓r_next, ↓r_var0, ↓r_varS, ↓r_c, ↓r_op, ↓r_addI, ↓r_addS, ↓r_addT, ↓r_addL, ↓r_sub, ↓r_mul, ↓r_div, ↓r_mod, ↓r_pow, ↓r_lt, ↓r_le, ↓r_gt, ↓r_ge, ↓r_eqI, ↓r_neI, ↓r_isN, ↓r_isT, ↓r_isI, ↓r_isR, ↓r_inN, ↓r_inT, ↓r_inI, ↓r_ixT, ↓r_ixLs, ↓r_ixRo, ↓r_ixP, ↓r_at0, ↓r_at1, ↓r_at2, ↓r_at3, ↓r_neg, ↓r_negC, ↓r_b, ↓r_bl, ↓r_and, ↓r_or, ↓r_not, ↓r_andV, ↓r_orV, ↓r_notV, ↓r_bl', ↓r_if, ↓r_ifS, ↓r_asg, ↓r_name, ↓r_jnil, ↓r_jcons, ↓r_jtup, ↓r_jlst, ↓r_jlstP, ↓r_jsub, ↓r_jcut, ↓r_jcutP, ↓r_jcutA, ↓r_in2, ↓r_stP, ↓r_st0, ↓r_st1, ↓r_st2, ↓r_par, ↓r_ret, ↓r_retN, ↓r_drop, ↓r_brk, ↓r_cont, ↓r_raise, ↓r_nil, ↓r_cons, ↓r_tup, ↓r_lst, ↓r_new, ↓r_frz, ↓r_frzP, ↓r_cb, ↓r_call, ↓r_abs, ↓r_max, ↓r_min, ↓r_intI, ↓r_intB, ↓r_lenT, ↓r_lenL, ↓r_lenR, ↓r_lenP, ↓r_listL, ↓r_listR, ↓r_listOL, ↓r_tupleL, ↓r_tupleP, ↓r_isiII, ↓r_isiIB, ↓r_isiBI, ↓r_isiBB, ↓r_isiTT, ↓r_isiLL, ↓r_app, ↓r_appP, ↓r_clr, ↓r_clrP, ↓r_lstP, ↓r_cut, ↓r_onone, ↓r_osome, ↓r_int', ↓r_cutT, ↓r_cutLs, ↓r_cutP, ↓r_range1, ↓r_rg1, ↓rs0, ↓rsS, ↓ite_dec, ↓ite_ndec, ↓put_put, startD, List.length_cons, List.length_nil, and_assoc, and_true, true_and, and_self, or_self, or_false, false_or, or_true, true_or, decide_eq_true_eq, decide_true, decide_false, Bool.not_true, Bool.not_false, Bool.false_eq_true, if_true, if_false, ↓reduceIte, ne_eq, Nat.reduceLeDiff, Nat.reduceAdd, not_false_eq_true, not_true_eq_false, reduceCtorEq, Option.some.injEq, Int.reduceToNat, Int.reducePow, Int.reduceAdd, Int.reduceMul, Int.reduceSub, Int.reduceNeg, Int.reduceEq, List.nil_append, List.cons_append, ↓r_keep, ↓r_isExc, ↓r_indexM, ↓r_lstL, ↓r_eqF, ↓r_neF, ↓r_eqM, ↓r_neM, ↓r_isiFr, ↓r_eqB, ↓r_neB, beq_self_eq_true, ↓r_cutO, ↓r_cutOL, ↓r_cutOP])
    refine ⟨m, q, 80, rfl, m1, q1, bq, by decide, fun q0 => ?_, fun q0 => ?_⟩
    · (try simp only [↓r_wm1, ↓r_wm2, ↓r_wm3, ↓r_wm4, ↓r_forT, ↓r_forI, ↓r_fU0, ↓r_fU1, ↓r_turn, ↓r_yes, ↓r_ofrz, ↓r_oown, ↓r_w0, ↓r_w1, ↓r_w2, ↓r_w3, ↓r_w4, ↓r_lcT, ↓r_lcI, ↓r_lcR, ↓r_cU0, ↓r_cU1, ↓r_s0, ↓r_n0, ↓r_s1, ↓r_n1, ↓r_s2, ↓r_n2, ↓r_s3, ↓r_n3, ↓r_s4, ↓r_n4, ↓r_s5, ↓r_n5, ↓r_s6, ↓r_n6, ↓r_s7, ↓r_n7, ↓r_s8, ↓r_n8, ↓r_s9, ↓r_n9, ↓r_s10, ↓r_n10, ↓r_s11, ↓r_n11, ↓r_s12, ↓r_n12, ↓r_s13, ↓r_n13, ↓r_s14, ↓r_n14, ↓r_s15, ↓r_n15, ↓r_s16, ↓r_n16, ↓r_s17, ↓r_n17, ↓r_s18, ↓r_n18, ↓r_s19, ↓r_n19, ↓r_s20, ↓r_n20, ↓r_s21, ↓r_n21, ↓r_s22, ↓r_n22, ↓r_s23, ↓r_n23, ↓r_s24, ↓r_n24, ↓r_s25, ↓r_n25, ↓r_fr0, ↓r_fr1, ↓r_frL, ↓r_frN, ↓r_frNN, ↓r_max3, ↓r_seq, ↓r_next, ↓r_var0, ↓r_varS, ↓r_c, ↓r_op, ↓r_addI, ↓r_addS, ↓r_addT, ↓r_addL, ↓r_sub, ↓r_mul, ↓r_div, ↓r_mod, ↓r_pow, ↓r_lt, ↓r_le, ↓r_gt, ↓r_ge, ↓r_eqI, ↓r_neI, ↓r_isN, ↓r_isT, ↓r_isI, ↓r_isR, ↓r_inN, ↓r_inT, ↓r_inI, ↓r_ixT, ↓r_ixLs, ↓r_ixRo, ↓r_ixP, ↓r_at0, ↓r_at1, ↓r_at2, ↓r_at3, ↓r_neg, ↓r_negC, ↓r_b, ↓r_bl, ↓r_and, ↓r_or, ↓r_not, ↓r_andV, ↓r_orV, ↓r_notV, ↓r_bl', ↓r_if, ↓r_ifS, ↓r_asg, ↓r_name, ↓r_jnil, ↓r_jcons, ↓r_jtup, ↓r_jlst, ↓r_jlstP, ↓r_jsub, ↓r_jcut, ↓r_jcutP, ↓r_jcutA, ↓r_in2, ↓r_stP, ↓r_st0, ↓r_st1, ↓r_st2, ↓r_par, ↓r_ret, ↓r_retN, ↓r_drop, ↓r_brk, ↓r_cont, ↓r_raise, ↓r_nil, ↓r_cons, ↓r_tup, ↓r_lst, ↓r_new, ↓r_frz, ↓r_frzP, ↓r_cb, ↓r_call, ↓r_abs, ↓r_max, ↓r_min, ↓r_intI, ↓r_intB, ↓r_lenT, ↓r_lenL, ↓r_lenR, ↓r_lenP, ↓r_listL, ↓r_listR, ↓r_listOL, ↓r_tupleL, ↓r_tupleP, ↓r_isiII, ↓r_isiIB, ↓r_isiBI, ↓r_isiBB, ↓r_isiTT, ↓r_isiLL, ↓r_app, ↓r_appP, ↓r_clr, ↓r_clrP, ↓r_lstP, ↓r_cut, ↓r_onone, ↓r_osome, ↓r_int', ↓r_cutT, ↓r_cutLs, ↓r_cutP, ↓r_range1, ↓r_rg1, ↓rs0, ↓rsS, ↓ite_dec, ↓ite_ndec, ↓put_put, startD, List.length_cons, List.length_nil, and_assoc, and_true, true_and, and_self, or_self, or_false, false_or, or_true, true_or, decide_eq_true_eq, decide_true, decide_false, Bool.not_true, Bool.not_false, Bool.false_eq_true, if_true, if_false, ↓reduceIte, ne_eq, Nat.reduceLeDiff, Nat.reduceAdd, not_false_eq_true, not_true_eq_false, reduceCtorEq, Option.some.injEq, Int.reduceToNat, Int.reducePow, Int.reduceAdd, Int.reduceMul, Int.reduceSub, Int.reduceNeg, Int.reduceEq, List.nil_append, List.cons_append, ↓r_keep, ↓r_isExc, ↓r_indexM, ↓r_lstL, ↓r_eqF, ↓r_neF, ↓r_eqM, ↓r_neM, ↓r_isiFr, ↓r_eqB, ↓r_neB, beq_self_eq_true, ↓r_cutO, ↓r_cutOL, ↓r_cutOP])
      refine ⟨fun ρ2 μ2 => ∃ x4 : Option D, ρ2 = [some (.ro (xs.map D.int)), some (.int (0 + i)), some (.ref p), some m.d, some (fr q), x4, some (grwM m q).d], ?_, ?_⟩
      · (try simp only [↓r_wm1, ↓r_wm2, ↓r_wm3, ↓r_wm4, ↓r_forT, ↓r_forI, ↓r_fU0, ↓r_fU1, ↓r_turn, ↓r_yes, ↓r_ofrz, ↓r_oown, ↓r_w0, ↓r_w1, ↓r_w2, ↓r_w3, ↓r_w4, ↓r_lcT, ↓r_lcI, ↓r_lcR, ↓r_cU0, ↓r_cU1, ↓r_s0, ↓r_n0, ↓r_s1, ↓r_n1, ↓r_s2, ↓r_n2, ↓r_s3, ↓r_n3, ↓r_s4, ↓r_n4, ↓r_s5, ↓r_n5, ↓r_s6, ↓r_n6, ↓r_s7, ↓r_n7, ↓r_s8, ↓r_n8, ↓r_s9, ↓r_n9, ↓r_s10, ↓r_n10, ↓r_s11, ↓r_n11, ↓r_s12, ↓r_n12, ↓r_s13, ↓r_n13, ↓r_s14, ↓r_n14, ↓r_s15, ↓r_n15, ↓r_s16, ↓r_n16, ↓r_s17, ↓r_n17, ↓r_s18, ↓r_n18, ↓r_s19, ↓r_n19, ↓r_s20, ↓r_n20, ↓r_s21, ↓r_n21, ↓r_s22, ↓r_n22, ↓r_s23, ↓r_n23, ↓r_s24, ↓r_n24, ↓r_s25, ↓r_n25, ↓r_fr0, ↓r_fr1, ↓r_frL, ↓r_frN, ↓r_frNN, ↓r_max3, ↓r_seq, ↓r_next, ↓r_var0, ↓r_varS, ↓r_c, ↓r_op, ↓r_addI, ↓r_addS, ↓r_addT, ↓r_addL, ↓r_sub, ↓r_mul, ↓r_div, ↓r_mod, ↓r_pow, ↓r_lt, ↓r_le, ↓r_gt, ↓r_ge, ↓r_eqI, ↓r_neI, ↓r_isN, ↓r_isT, ↓r_isI, ↓r_isR, ↓r_inN, ↓r_inT, ↓r_inI, ↓r_ixT, ↓r_ixLs, ↓r_ixRo, ↓r_ixP, ↓r_at0, ↓r_at1, ↓r_at2, ↓r_at3, ↓r_neg, ↓r_negC, ↓r_b, ↓r_bl, ↓r_and, ↓r_or, ↓r_not, ↓r_andV, ↓r_orV, ↓r_notV, ↓r_bl', ↓r_if, ↓r_ifS, ↓r_asg, ↓r_name, ↓r_jnil, ↓r_jcons, ↓r_jtup, ↓r_jlst, ↓r_jlstP, ↓r_jsub, ↓r_jcut, ↓r_jcutP, ↓r_jcutA, ↓r_in2, ↓r_stP, ↓r_st0, ↓r_st1, ↓r_st2, ↓r_par, ↓r_ret, ↓r_retN, ↓r_drop, ↓r_brk, ↓r_cont, ↓r_raise, ↓r_nil, ↓r_cons, ↓r_tup, ↓r_lst, ↓r_new, ↓r_frz, ↓r_frzP, ↓r_cb, ↓r_call, ↓r_abs, ↓r_max, ↓r_min, ↓r_intI, ↓r_intB, ↓r_lenT, ↓r_lenL, ↓r_lenR, ↓r_lenP, ↓r_listL, ↓r_listR, ↓r_listOL, ↓r_tupleL, ↓r_tupleP, ↓r_isiII, ↓r_isiIB, ↓r_isiBI, ↓r_isiBB, ↓r_isiTT, ↓r_isiLL, ↓r_app, ↓r_appP, ↓r_clr, ↓r_clrP, ↓r_lstP, ↓r_cut, ↓r_onone, ↓r_osome, ↓r_int', ↓r_cutT, ↓r_cutLs, ↓r_cutP, ↓r_range1, ↓r_rg1, ↓rs0, ↓rsS, ↓ite_dec, ↓ite_ndec, ↓put_put, startD, List.length_cons, List.length_nil, and_assoc, and_true, true_and, and_self, or_self, or_false, false_or, or_true, true_or, decide_eq_true_eq, decide_true, decide_false, Bool.not_true, Bool.not_false, Bool.false_eq_true, if_true, if_false, ↓reduceIte, ne_eq, Nat.reduceLeDiff, Nat.reduceAdd, not_false_eq_true, not_true_eq_false, reduceCtorEq, Option.some.injEq, Int.reduceToNat, Int.reducePow, Int.reduceAdd, Int.reduceMul, Int.reduceSub, Int.reduceNeg, Int.reduceEq, List.nil_append, List.cons_append, ↓r_keep, ↓r_isExc, ↓r_indexM, ↓r_lstL, ↓r_eqF, ↓r_neF, ↓r_eqM, ↓r_neM, ↓r_isiFr, ↓r_eqB, ↓r_neB, beq_self_eq_true, ↓r_cutO, ↓r_cutOL, ↓r_cutOP, q0])
        exact ⟨_, rfl⟩
      rintro ρ2 μ5 ⟨x4, rfl⟩
      (try simp only [↓r_wm1, ↓r_wm2, ↓r_wm3, ↓r_wm4, ↓r_forT, ↓r_forI, ↓r_fU0, ↓r_fU1, ↓r_turn, ↓r_yes, ↓r_ofrz, ↓r_oown, ↓r_w0, ↓r_w1, ↓r_w2, ↓r_w3, ↓r_w4, ↓r_lcT, ↓r_lcI, ↓r_lcR, ↓r_cU0, ↓r_cU1, ↓r_s0, ↓r_n0, ↓r_s1, ↓r_n1, ↓r_s2, ↓r_n2, ↓r_s3, ↓r_n3, ↓r_s4, ↓r_n4, ↓r_s5, ↓r_n5, ↓r_s6, ↓r_n6, ↓r_s7, ↓r_n7, ↓r_s8, ↓r_n8, ↓r_s9, ↓r_n9, ↓r_s10, ↓r_n10, ↓r_s11, ↓r_n11, ↓r_s12, ↓r_n12, ↓r_s13, ↓r_n13, ↓r_s14, ↓r_n14, ↓r_s15, ↓r_n15, ↓r_s16, ↓r_n16, ↓r_s17, ↓r_n17, ↓r_s18, ↓r_n18, ↓r_s19, ↓r_n19, ↓r_s20, ↓r_n20, ↓r_s21, ↓r_n21, ↓r_s22, ↓r_n22, ↓r_s23, ↓r_n23, ↓r_s24, ↓r_n24, ↓r_s25, ↓r_n25, ↓r_fr0, ↓r_fr1, ↓r_frL, ↓r_frN, ↓r_frNN, ↓r_max3, ↓r_seq, ↓r_next, ↓r_var0, ↓r_varS, ↓r_c, ↓r_op, ↓r_addI, ↓r_addS, ↓r_addT, ↓r_addL, ↓r_sub, ↓r_mul, ↓r_div, ↓r_mod, ↓r_pow, ↓r_lt, ↓r_le, ↓r_gt, ↓r_ge, ↓r_eqI, ↓r_neI, ↓r_isN, ↓r_isT, ↓r_isI, ↓r_isR, ↓r_inN, ↓r_inT, ↓r_inI, ↓r_ixT, ↓r_ixLs, ↓r_ixRo, ↓r_ixP, ↓r_at0, ↓r_at1, ↓r_at2, ↓r_at3, ↓r_neg, ↓r_negC, ↓r_b, ↓r_bl, ↓r_and, ↓r_or, ↓r_not, ↓r_andV, ↓r_orV, ↓r_notV, ↓r_bl', ↓r_if, ↓r_ifS, ↓r_asg, ↓r_name, ↓r_jnil, ↓r_jcons, ↓r_jtup, ↓r_jlst, ↓r_jlstP, ↓r_jsub, ↓r_jcut, ↓r_jcutP, ↓r_jcutA, ↓r_in2, ↓r_stP, ↓r_st0, ↓r_st1, ↓r_st2, ↓r_par, ↓r_ret, ↓r_retN, ↓r_drop, ↓r_brk, ↓r_cont, ↓r_raise, ↓r_nil, ↓r_cons, ↓r_tup, ↓r_lst, ↓r_new, ↓r_frz, ↓r_frzP, ↓r_cb, ↓r_call, ↓r_abs, ↓r_max, ↓r_min, ↓r_intI, ↓r_intB, ↓r_lenT, ↓r_lenL, ↓r_lenR, ↓r_lenP, ↓r_listL, ↓r_listR, ↓r_listOL, ↓r_tupleL, ↓r_tupleP, ↓r_isiII, ↓r_isiIB, ↓r_isiBI, ↓r_isiBB, ↓r_isiTT, ↓r_isiLL, ↓r_app, ↓r_appP, ↓r_clr, ↓r_clrP, ↓r_lstP, ↓r_cut, ↓r_onone, ↓r_osome, ↓r_int', ↓r_cutT, ↓r_cutLs, ↓r_cutP, ↓r_range1, ↓r_rg1, ↓rs0, ↓rsS, ↓ite_dec, ↓ite_ndec, ↓put_put, startD, List.length_cons, List.length_nil, and_assoc, and_true, true_and, and_self, or_self, or_false, false_or, or_true, true_or, decide_eq_true_eq, decide_true, decide_false, Bool.not_true, Bool.not_false, Bool.false_eq_true, if_true, if_false, ↓reduceIte, ne_eq, Nat.reduceLeDiff, Nat.reduceAdd, not_false_eq_true, not_true_eq_false, reduceCtorEq, Option.some.injEq, Int.reduceToNat, Int.reducePow, Int.reduceAdd, Int.reduceMul, Int.reduceSub, Int.reduceNeg, Int.reduceEq, List.nil_append, List.cons_append, ↓r_keep, ↓r_isExc, ↓r_indexM, ↓r_lstL, ↓r_eqF, ↓r_neF, ↓r_eqM, ↓r_neM, ↓r_isiFr, ↓r_eqB, ↓r_neB, beq_self_eq_true, ↓r_cutO, ↓r_cutOL, ↓r_cutOP, q0, ↓r_str s2])
      refine ⟨m, q, 80, rfl, m1, q1, bq, by decide, ?_⟩
      (try simp only [↓r_wm1, ↓r_wm2, ↓r_wm3, ↓r_wm4, ↓r_forT, ↓r_forI, ↓r_fU0, ↓r_fU1, ↓r_turn, ↓r_yes, ↓r_ofrz, ↓r_oown, ↓r_w0, ↓r_w1, ↓r_w2, ↓r_w3, ↓r_w4, ↓r_lcT, ↓r_lcI, ↓r_lcR, ↓r_cU0, ↓r_cU1, ↓r_s0, ↓r_n0, ↓r_s1, ↓r_n1, ↓r_s2, ↓r_n2, ↓r_s3, ↓r_n3, ↓r_s4, ↓r_n4, ↓r_s5, ↓r_n5, ↓r_s6, ↓r_n6, ↓r_s7, ↓r_n7, ↓r_s8, ↓r_n8, ↓r_s9, ↓r_n9, ↓r_s10, ↓r_n10, ↓r_s11, ↓r_n11, ↓r_s12, ↓r_n12, ↓r_s13, ↓r_n13, ↓r_s14, ↓r_n14, ↓r_s15, ↓r_n15, ↓r_s16, ↓r_n16, ↓r_s17, ↓r_n17, ↓r_s18, ↓r_n18, ↓r_s19, ↓r_n19, ↓r_s20, ↓r_n20, ↓r_s21, ↓r_n21, ↓r_s22, ↓r_n22, ↓r_s23, ↓r_n23, ↓r_s24, ↓r_n24, ↓r_s25, ↓r_n25, ↓r_fr0, ↓r_fr1, ↓r_frL, ↓r_frN, ↓r_frNN, ↓r_max3, ↓r_seq, ↓r_next, ↓r_var0, ↓r_varS, ↓r_c, ↓r_op, ↓r_addI, ↓r_addS, ↓r_addT, ↓r_addL, ↓r_sub, ↓r_mul, ↓r_div, ↓r_mod, ↓r_pow, ↓r_lt, ↓r_le, ↓r_gt, ↓r_ge, ↓r_eqI, ↓r_neI, ↓r_isN, ↓r_isT, ↓r_isI, ↓r_isR, ↓r_inN, ↓r_inT, ↓r_inI, ↓r_ixT, ↓r_ixLs, ↓r_ixRo, ↓r_ixP, ↓r_at0, ↓r_at1, ↓r_at2, ↓r_at3, ↓r_neg, ↓r_negC, ↓r_b, ↓r_bl, ↓r_and, ↓r_or, ↓r_not, ↓r_andV, ↓r_orV, ↓r_notV, ↓r_bl', ↓r_if, ↓r_ifS, ↓r_asg, ↓r_name, ↓r_jnil, ↓r_jcons, ↓r_jtup, ↓r_jlst, ↓r_jlstP, ↓r_jsub, ↓r_jcut, ↓r_jcutP, ↓r_jcutA, ↓r_in2, ↓r_stP, ↓r_st0, ↓r_st1, ↓r_st2, ↓r_par, ↓r_ret, ↓r_retN, ↓r_drop, ↓r_brk, ↓r_cont, ↓r_raise, ↓r_nil, ↓r_cons, ↓r_tup, ↓r_lst, ↓r_new, ↓r_frz, ↓r_frzP, ↓r_cb, ↓r_call, ↓r_abs, ↓r_max, ↓r_min, ↓r_intI, ↓r_intB, ↓r_lenT, ↓r_lenL, ↓r_lenR, ↓r_lenP, ↓r_listL, ↓r_listR, ↓r_listOL, ↓r_tupleL, ↓r_tupleP, ↓r_isiII, ↓r_isiIB, ↓r_isiBI, ↓r_isiBB, ↓r_isiTT, ↓r_isiLL, ↓r_app, ↓r_appP, ↓r_clr, ↓r_clrP, ↓r_lstP, ↓r_cut, ↓r_onone, ↓r_osome, ↓r_int', ↓r_cutT, ↓r_cutLs, ↓r_cutP, ↓r_range1, ↓r_rg1, ↓rs0, ↓rsS, ↓ite_dec, ↓ite_ndec, ↓put_put, startD, List.length_cons, List.length_nil, and_assoc, and_true, true_and, and_self, or_self, or_false, false_or, or_true, true_or, decide_eq_true_eq, decide_true, decide_false, Bool.not_true, Bool.not_false, Bool.false_eq_true, if_true, if_false, ↓reduceIte, ne_eq, Nat.reduceLeDiff, Nat.reduceAdd, not_false_eq_true, not_true_eq_false, reduceCtorEq, Option.some.injEq, Int.reduceToNat, Int.reducePow, Int.reduceAdd, Int.reduceMul, Int.reduceSub, Int.reduceNeg, Int.reduceEq, List.nil_append, List.cons_append, ↓r_keep, ↓r_isExc, ↓r_indexM, ↓r_lstL, ↓r_eqF, ↓r_neF, ↓r_eqM, ↓r_neM, ↓r_isiFr, ↓r_eqB, ↓r_neB, beq_self_eq_true, ↓r_cutO, ↓r_cutOL, ↓r_cutOP, ↓r_str s2, ↓r_neSh s2])
      refine ⟨q.2, q.1, rfl, q0, bq.1.mono (by decide), ?_⟩
      (try simp only [↓r_wm1, ↓r_wm2, ↓r_wm3, ↓r_wm4, ↓r_forT, ↓r_forI, ↓r_fU0, ↓r_fU1, ↓r_turn, ↓r_yes, ↓r_ofrz, ↓r_oown, ↓r_w0, ↓r_w1, ↓r_w2, ↓r_w3, ↓r_w4, ↓r_lcT, ↓r_lcI, ↓r_lcR, ↓r_cU0, ↓r_cU1, ↓r_s0, ↓r_n0, ↓r_s1, ↓r_n1, ↓r_s2, ↓r_n2, ↓r_s3, ↓r_n3, ↓r_s4, ↓r_n4, ↓r_s5, ↓r_n5, ↓r_s6, ↓r_n6, ↓r_s7, ↓r_n7, ↓r_s8, ↓r_n8, ↓r_s9, ↓r_n9, ↓r_s10, ↓r_n10, ↓r_s11, ↓r_n11, ↓r_s12, ↓r_n12, ↓r_s13, ↓r_n13, ↓r_s14, ↓r_n14, ↓r_s15, ↓r_n15, ↓r_s16, ↓r_n16, ↓r_s17, ↓r_n17, ↓r_s18, ↓r_n18, ↓r_s19, ↓r_n19, ↓r_s20, ↓r_n20, ↓r_s21, ↓r_n21, ↓r_s22, ↓r_n22, ↓r_s23, ↓r_n23, ↓r_s24, ↓r_n24, ↓r_s25, ↓r_n25, ↓r_fr0, ↓r_fr1, ↓r_frL, ↓r_frN, ↓r_frNN, ↓r_max3, ↓r_seq, ↓r_next, ↓r_var0, ↓r_varS, ↓r_c, ↓r_op, ↓r_addI, ↓r_addS, ↓r_addT, ↓r_addL, ↓r_sub, ↓r_mul, ↓r_div, ↓r_mod, ↓r_pow, ↓r_lt, ↓r_le, ↓r_gt, ↓r_ge, ↓r_eqI, ↓r_neI, ↓r_isN, ↓r_isT, ↓r_isI, ↓r_isR, ↓r_inN, ↓r_inT, ↓r_inI, ↓r_ixT, ↓r_ixLs, ↓r_ixRo, ↓r_ixP, ↓r_at0, ↓r_at1, ↓r_at2, ↓r_at3, ↓r_neg, ↓r_negC, ↓r_b, ↓r_bl, ↓r_and, ↓r_or, ↓r_not, ↓r_andV, ↓r_orV, ↓r_notV, ↓r_bl', ↓r_if, ↓r_ifS, ↓r_asg, ↓r_name, ↓r_jnil, ↓r_jcons, ↓r_jtup, ↓r_jlst, ↓r_jlstP, ↓r_jsub, ↓r_jcut, ↓r_jcutP, ↓r_jcutA, ↓r_in2, ↓r_stP, ↓r_st0, ↓r_st1, ↓r_st2, ↓r_par, ↓r_ret, ↓r_retN, ↓r_drop, ↓r_brk, ↓r_cont, ↓r_raise, ↓r_nil, ↓r_cons, ↓r_tup, ↓r_lst, ↓r_new, ↓r_frz, ↓r_frzP, ↓r_cb, ↓r_call, ↓r_abs, ↓r_max, ↓r_min, ↓r_intI, ↓r_intB, ↓r_lenT, ↓r_lenL, ↓r_lenR, ↓r_lenP, ↓r_listL, ↓r_listR, ↓r_listOL, ↓r_tupleL, ↓r_tupleP, ↓r_isiII, ↓r_isiIB, ↓r_isiBI, ↓r_isiBB, ↓r_isiTT, ↓r_isiLL, ↓r_app, ↓r_appP, ↓r_clr, ↓r_clrP, ↓r_lstP, ↓r_cut, ↓r_onone, ↓r_osome, ↓r_int', ↓r_cutT, ↓r_cutLs, ↓r_cutP, ↓r_range1, ↓r_rg1, ↓rs0, ↓rsS, ↓ite_dec, ↓ite_ndec, ↓put_put, startD, List.length_cons, List.length_nil, and_assoc, and_true, true_and, and_self, or_self, or_false, false_or, or_true, true_or, decide_eq_true_eq, decide_true, decide_false, Bool.not_true, Bool.not_false, Bool.false_eq_true, if_true, if_false, ↓reduceIte, ne_eq, Nat.reduceLeDiff, Nat.reduceAdd, not_false_eq_true, not_true_eq_false, reduceCtorEq, Option.some.injEq, Int.reduceToNat, Int.reducePow, Int.reduceAdd, Int.reduceMul, Int.reduceSub, Int.reduceNeg, Int.reduceEq, List.nil_append, List.cons_append, ↓r_keep, ↓r_isExc, ↓r_indexM, ↓r_lstL, ↓r_eqF, ↓r_neF, ↓r_eqM, ↓r_neM, ↓r_isiFr, ↓r_eqB, ↓r_neB, beq_self_eq_true, ↓r_cutO, ↓r_cutOL, ↓r_cutOP])
      refine ⟨grwM m q, _, 4 * 80 + 8, rfl, k2, low_can q0, (low_fb q0 bq.2 bq.1).mono (by decide), by decide, ?_⟩
      refine ⟨?_, ?_⟩
      · intro z
        have := (low_mul q.2 q.1).1
        rw [z, Int.zero_mul] at this
        exact q1.ne this.symm
      rw [grw_back m1 m2 q1 bq q0]
      (try simp only [↓r_wm1, ↓r_wm2, ↓r_wm3, ↓r_wm4, ↓r_forT, ↓r_forI, ↓r_fU0, ↓r_fU1, ↓r_turn, ↓r_yes, ↓r_ofrz, ↓r_oown, ↓r_w0, ↓r_w1, ↓r_w2, ↓r_w3, ↓r_w4, ↓r_lcT, ↓r_lcI, ↓r_lcR, ↓r_cU0, ↓r_cU1, ↓r_s0, ↓r_n0, ↓r_s1, ↓r_n1, ↓r_s2, ↓r_n2, ↓r_s3, ↓r_n3, ↓r_s4, ↓r_n4, ↓r_s5, ↓r_n5, ↓r_s6, ↓r_n6, ↓r_s7, ↓r_n7, ↓r_s8, ↓r_n8, ↓r_s9, ↓r_n9, ↓r_s10, ↓r_n10, ↓r_s11, ↓r_n11, ↓r_s12, ↓r_n12, ↓r_s13, ↓r_n13, ↓r_s14, ↓r_n14, ↓r_s15, ↓r_n15, ↓r_s16, ↓r_n16, ↓r_s17, ↓r_n17, ↓r_s18, ↓r_n18, ↓r_s19, ↓r_n19, ↓r_s20, ↓r_n20, ↓r_s21, ↓r_n21, ↓r_s22, ↓r_n22, ↓r_s23, ↓r_n23, ↓r_s24, ↓r_n24, ↓r_s25, ↓r_n25, ↓r_fr0, ↓r_fr1, ↓r_frL, ↓r_frN, ↓r_frNN, ↓r_max3, ↓r_seq, ↓r_next, ↓r_var0, ↓r_varS, ↓r_c, ↓r_op, ↓r_addI, ↓r_addS, ↓r_addT, ↓r_addL, ↓r_sub, ↓r_mul, ↓r_div, ↓r_mod, ↓r_pow, ↓r_lt, ↓r_le, ↓r_gt, ↓r_ge, ↓r_eqI, ↓r_neI, ↓r_isN, ↓r_isT, ↓r_isI, ↓r_isR, ↓r_inN, ↓r_inT, ↓r_inI, ↓r_ixT, ↓r_ixLs, ↓r_ixRo, ↓r_ixP, ↓r_at0, ↓r_at1, ↓r_at2, ↓r_at3, ↓r_neg, ↓r_negC, ↓r_b, ↓r_bl, ↓r_and, ↓r_or, ↓r_not, ↓r_andV, ↓r_orV, ↓r_notV, ↓r_bl', ↓r_if, ↓r_ifS, ↓r_asg, ↓r_name, ↓r_jnil, ↓r_jcons, ↓r_jtup, ↓r_jlst, ↓r_jlstP, ↓r_jsub, ↓r_jcut, ↓r_jcutP, ↓r_jcutA, ↓r_in2, ↓r_stP, ↓r_st0, ↓r_st1, ↓r_st2, ↓r_par, ↓r_ret, ↓r_retN, ↓r_drop, ↓r_brk, ↓r_cont, ↓r_raise, ↓r_nil, ↓r_cons, ↓r_tup, ↓r_lst, ↓r_new, ↓r_frz, ↓r_frzP, ↓r_cb, ↓r_call, ↓r_abs, ↓r_max, ↓r_min, ↓r_intI, ↓r_intB, ↓r_lenT, ↓r_lenL, ↓r_lenR, ↓r_lenP, ↓r_listL, ↓r_listR, ↓r_listOL, ↓r_tupleL, ↓r_tupleP, ↓r_isiII, ↓r_isiIB, ↓r_isiBI, ↓r_isiBB, ↓r_isiTT, ↓r_isiLL, ↓r_app, ↓r_appP, ↓r_clr, ↓r_clrP, ↓r_lstP, ↓r_cut, ↓r_onone, ↓r_osome, ↓r_int', ↓r_cutT, ↓r_cutLs, ↓r_cutP, ↓r_range1, ↓r_rg1, ↓rs0, ↓rsS, ↓ite_dec, ↓ite_ndec, ↓put_put, startD, List.length_cons, List.length_nil, and_assoc, and_true, true_and, and_self, or_self, or_false, false_or, or_true, true_or, decide_eq_true_eq, decide_true, decide_false, Bool.not_true, Bool.not_false, Bool.false_eq_true, if_true, if_false, ↓reduceIte, ne_eq, Nat.reduceLeDiff, Nat.reduceAdd, not_false_eq_true, not_true_eq_false, reduceCtorEq, Option.some.injEq, Int.reduceToNat, Int.reducePow, Int.reduceAdd, Int.reduceMul, Int.reduceSub, Int.reduceNeg, Int.reduceEq, List.nil_append, List.cons_append, ↓r_keep, ↓r_isExc, ↓r_indexM, ↓r_lstL, ↓r_eqF, ↓r_neF, ↓r_eqM, ↓r_neM, ↓r_isiFr, ↓r_eqB, ↓r_neB, beq_self_eq_true, ↓r_cutO, ↓r_cutOL, ↓r_cutOP])
      exact ⟨_, _, _, _, _, _, rfl⟩
    · have sn : PyData.strOk "NoFraction" = true := by decide +kernel
      (try simp only [↓r_wm1, ↓r_wm2, ↓r_wm3, ↓r_wm4, ↓r_forT, ↓r_forI, ↓r_fU0, ↓r_fU1, ↓r_turn, ↓r_yes, ↓r_ofrz, ↓r_oown, ↓r_w0, ↓r_w1, ↓r_w2, ↓r_w3, ↓r_w4, ↓r_lcT, ↓r_lcI, ↓r_lcR, ↓r_cU0, ↓r_cU1, ↓r_s0, ↓r_n0, ↓r_s1, ↓r_n1, ↓r_s2, ↓r_n2, ↓r_s3, ↓r_n3, ↓r_s4, ↓r_n4, ↓r_s5, ↓r_n5, ↓r_s6, ↓r_n6, ↓r_s7, ↓r_n7, ↓r_s8, ↓r_n8, ↓r_s9, ↓r_n9, ↓r_s10, ↓r_n10, ↓r_s11, ↓r_n11, ↓r_s12, ↓r_n12, ↓r_s13, ↓r_n13, ↓r_s14, ↓r_n14, ↓r_s15, ↓r_n15, ↓r_s16, ↓r_n16, ↓r_s17, ↓r_n17, ↓r_s18, ↓r_n18, ↓r_s19, ↓r_n19, ↓r_s20, ↓r_n20, ↓r_s21, ↓r_n21, ↓r_s22, ↓r_n22, ↓r_s23, ↓r_n23, ↓r_s24, ↓r_n24, ↓r_s25, ↓r_n25, ↓r_fr0, ↓r_fr1, ↓r_frL, ↓r_frN, ↓r_frNN, ↓r_max3, ↓r_seq, ↓r_next, ↓r_var0, ↓r_varS, ↓r_c, ↓r_op, ↓r_addI, ↓r_addS, ↓r_addT, ↓r_addL, ↓r_sub, ↓r_mul, ↓r_div, ↓r_mod, ↓r_pow, ↓r_lt, ↓r_le, ↓r_gt, ↓r_ge, ↓r_eqI, ↓r_neI, ↓r_isN, ↓r_isT, ↓r_isI, ↓r_isR, ↓r_inN, ↓r_inT, ↓r_inI, ↓r_ixT, ↓r_ixLs, ↓r_ixRo, ↓r_ixP, ↓r_at0, ↓r_at1, ↓r_at2, ↓r_at3, ↓r_neg, ↓r_negC, ↓r_b, ↓r_bl, ↓r_and, ↓r_or, ↓r_not, ↓r_andV, ↓r_orV, ↓r_notV, ↓r_bl', ↓r_if, ↓r_ifS, ↓r_asg, ↓r_name, ↓r_jnil, ↓r_jcons, ↓r_jtup, ↓r_jlst, ↓r_jlstP, ↓r_jsub, ↓r_jcut, ↓r_jcutP, ↓r_jcutA, ↓r_in2, ↓r_stP, ↓r_st0, ↓r_st1, ↓r_st2, ↓r_par, ↓r_ret, ↓r_retN, ↓r_drop, ↓r_brk, ↓r_cont, ↓r_raise, ↓r_nil, ↓r_cons, ↓r_tup, ↓r_lst, ↓r_new, ↓r_frz, ↓r_frzP, ↓r_cb, ↓r_call, ↓r_abs, ↓r_max, ↓r_min, ↓r_intI, ↓r_intB, ↓r_lenT, ↓r_lenL, ↓r_lenR, ↓r_lenP, ↓r_listL, ↓r_listR, ↓r_listOL, ↓r_tupleL, ↓r_tupleP, ↓r_isiII, ↓r_isiIB, ↓r_isiBI, ↓r_isiBB, ↓r_isiTT, ↓r_isiLL, ↓r_app, ↓r_appP, ↓r_clr, ↓r_clrP, ↓r_lstP, ↓r_cut, ↓r_onone, ↓r_osome, ↓r_int', ↓r_cutT, ↓r_cutLs, ↓r_cutP, ↓r_range1, ↓r_rg1, ↓rs0, ↓rsS, ↓ite_dec, ↓ite_ndec, ↓put_put, startD, List.length_cons, List.length_nil, and_assoc, and_true, true_and, and_self, or_self, or_false, false_or, or_true, true_or, decide_eq_true_eq, decide_true, decide_false, Bool.not_true, Bool.not_false, Bool.false_eq_true, if_true, if_false, ↓reduceIte, ne_eq, Nat.reduceLeDiff, Nat.reduceAdd, not_false_eq_true, not_true_eq_false, reduceCtorEq, Option.some.injEq, Int.reduceToNat, Int.reducePow, Int.reduceAdd, Int.reduceMul, Int.reduceSub, Int.reduceNeg, Int.reduceEq, List.nil_append, List.cons_append, ↓r_keep, ↓r_isExc, ↓r_indexM, ↓r_lstL, ↓r_eqF, ↓r_neF, ↓r_eqM, ↓r_neM, ↓r_isiFr, ↓r_eqB, ↓r_neB, beq_self_eq_true, ↓r_cutO, ↓r_cutOL, ↓r_cutOP])
      refine ⟨fun ρ2 μ2 => ∃ x4 x5 : Option D, ρ2 = [some (.ro (xs.map D.int)), some (.int (0 + i)), some (.ref p), some m.d, some (fr q), x4, x5], ?_, ?_⟩
      · (try simp only [↓r_wm1, ↓r_wm2, ↓r_wm3, ↓r_wm4, ↓r_forT, ↓r_forI, ↓r_fU0, ↓r_fU1, ↓r_turn, ↓r_yes, ↓r_ofrz, ↓r_oown, ↓r_w0, ↓r_w1, ↓r_w2, ↓r_w3, ↓r_w4, ↓r_lcT, ↓r_lcI, ↓r_lcR, ↓r_cU0, ↓r_cU1, ↓r_s0, ↓r_n0, ↓r_s1, ↓r_n1, ↓r_s2, ↓r_n2, ↓r_s3, ↓r_n3, ↓r_s4, ↓r_n4, ↓r_s5, ↓r_n5, ↓r_s6, ↓r_n6, ↓r_s7, ↓r_n7, ↓r_s8, ↓r_n8, ↓r_s9, ↓r_n9, ↓r_s10, ↓r_n10, ↓r_s11, ↓r_n11, ↓r_s12, ↓r_n12, ↓r_s13, ↓r_n13, ↓r_s14, ↓r_n14, ↓r_s15, ↓r_n15, ↓r_s16, ↓r_n16, ↓r_s17, ↓r_n17, ↓r_s18, ↓r_n18, ↓r_s19, ↓r_n19, ↓r_s20, ↓r_n20, ↓r_s21, ↓r_n21, ↓r_s22, ↓r_n22, ↓r_s23, ↓r_n23, ↓r_s24, ↓r_n24, ↓r_s25, ↓r_n25, ↓r_fr0, ↓r_fr1, ↓r_frL, ↓r_frN, ↓r_frNN, ↓r_max3, ↓r_seq, ↓r_next, ↓r_var0, ↓r_varS, ↓r_c, ↓r_op, ↓r_addI, ↓r_addS, ↓r_addT, ↓r_addL, ↓r_sub, ↓r_mul, ↓r_div, ↓r_mod, ↓r_pow, ↓r_lt, ↓r_le, ↓r_gt, ↓r_ge, ↓r_eqI, ↓r_neI, ↓r_isN, ↓r_isT, ↓r_isI, ↓r_isR, ↓r_inN, ↓r_inT, ↓r_inI, ↓r_ixT, ↓r_ixLs, ↓r_ixRo, ↓r_ixP, ↓r_at0, ↓r_at1, ↓r_at2, ↓r_at3, ↓r_neg, ↓r_negC, ↓r_b, ↓r_bl, ↓r_and, ↓r_or, ↓r_not, ↓r_andV, ↓r_orV, ↓r_notV, ↓r_bl', ↓r_if, ↓r_ifS, ↓r_asg, ↓r_name, ↓r_jnil, ↓r_jcons, ↓r_jtup, ↓r_jlst, ↓r_jlstP, ↓r_jsub, ↓r_jcut, ↓r_jcutP, ↓r_jcutA, ↓r_in2, ↓r_stP, ↓r_st0, ↓r_st1, ↓r_st2, ↓r_par, ↓r_ret, ↓r_retN, ↓r_drop, ↓r_brk, ↓r_cont, ↓r_raise, ↓r_nil, ↓r_cons, ↓r_tup, ↓r_lst, ↓r_new, ↓r_frz, ↓r_frzP, ↓r_cb, ↓r_call, ↓r_abs, ↓r_max, ↓r_min, ↓r_intI, ↓r_intB, ↓r_lenT, ↓r_lenL, ↓r_lenR, ↓r_lenP, ↓r_listL, ↓r_listR, ↓r_listOL, ↓r_tupleL, ↓r_tupleP, ↓r_isiII, ↓r_isiIB, ↓r_isiBI, ↓r_isiBB, ↓r_isiTT, ↓r_isiLL, ↓r_app, ↓r_appP, ↓r_clr, ↓r_clrP, ↓r_lstP, ↓r_cut, ↓r_onone, ↓r_osome, ↓r_int', ↓r_cutT, ↓r_cutLs, ↓r_cutP, ↓r_range1, ↓r_rg1, ↓rs0, ↓rsS, ↓ite_dec, ↓ite_ndec, ↓put_put, startD, List.length_cons, List.length_nil, and_assoc, and_true, true_and, and_self, or_self, or_false, false_or, or_true, true_or, decide_eq_true_eq, decide_true, decide_false, Bool.not_true, Bool.not_false, Bool.false_eq_true, if_true, if_false, ↓reduceIte, ne_eq, Nat.reduceLeDiff, Nat.reduceAdd, not_false_eq_true, not_true_eq_false, reduceCtorEq, Option.some.injEq, Int.reduceToNat, Int.reducePow, Int.reduceAdd, Int.reduceMul, Int.reduceSub, Int.reduceNeg, Int.reduceEq, List.nil_append, List.cons_append, ↓r_keep, ↓r_isExc, ↓r_indexM, ↓r_lstL, ↓r_eqF, ↓r_neF, ↓r_eqM, ↓r_neM, ↓r_isiFr, ↓r_eqB, ↓r_neB, beq_self_eq_true, ↓r_cutO, ↓r_cutOL, ↓r_cutOP, q0, ↓r_neS sn sn])
        exact ⟨_, _, rfl⟩
      rintro ρ2 μ5 ⟨x4, x5, rfl⟩
      (try simp only [↓r_wm1, ↓r_wm2, ↓r_wm3, ↓r_wm4, ↓r_forT, ↓r_forI, ↓r_fU0, ↓r_fU1, ↓r_turn, ↓r_yes, ↓r_ofrz, ↓r_oown, ↓r_w0, ↓r_w1, ↓r_w2, ↓r_w3, ↓r_w4, ↓r_lcT, ↓r_lcI, ↓r_lcR, ↓r_cU0, ↓r_cU1, ↓r_s0, ↓r_n0, ↓r_s1, ↓r_n1, ↓r_s2, ↓r_n2, ↓r_s3, ↓r_n3, ↓r_s4, ↓r_n4, ↓r_s5, ↓r_n5, ↓r_s6, ↓r_n6, ↓r_s7, ↓r_n7, ↓r_s8, ↓r_n8, ↓r_s9, ↓r_n9, ↓r_s10, ↓r_n10, ↓r_s11, ↓r_n11, ↓r_s12, ↓r_n12, ↓r_s13, ↓r_n13, ↓r_s14, ↓r_n14, ↓r_s15, ↓r_n15, ↓r_s16, ↓r_n16, ↓r_s17, ↓r_n17, ↓r_s18, ↓r_n18, ↓r_s19, ↓r_n19, ↓r_s20, ↓r_n20, ↓r_s21, ↓r_n21, ↓r_s22, ↓r_n22, ↓r_s23, ↓r_n23, ↓r_s24, ↓r_n24, ↓r_s25, ↓r_n25, ↓r_fr0, ↓r_fr1, ↓r_frL, ↓r_frN, ↓r_frNN, ↓r_max3, ↓r_seq, ↓r_next, ↓r_var0, ↓r_varS, ↓r_c, ↓r_op, ↓r_addI, ↓r_addS, ↓r_addT, ↓r_addL, ↓r_sub, ↓r_mul, ↓r_div, ↓r_mod, ↓r_pow, ↓r_lt, ↓r_le, ↓r_gt, ↓r_ge, ↓r_eqI, ↓r_neI, ↓r_isN, ↓r_isT, ↓r_isI, ↓r_isR, ↓r_inN, ↓r_inT, ↓r_inI, ↓r_ixT, ↓r_ixLs, ↓r_ixRo, ↓r_ixP, ↓r_at0, ↓r_at1, ↓r_at2, ↓r_at3, ↓r_neg, ↓r_negC, ↓r_b, ↓r_bl, ↓r_and, ↓r_or, ↓r_not, ↓r_andV, ↓r_orV, ↓r_notV, ↓r_bl', ↓r_if, ↓r_ifS, ↓r_asg, ↓r_name, ↓r_jnil, ↓r_jcons, ↓r_jtup, ↓r_jlst, ↓r_jlstP, ↓r_jsub, ↓r_jcut, ↓r_jcutP, ↓r_jcutA, ↓r_in2, ↓r_stP, ↓r_st0, ↓r_st1, ↓r_st2, ↓r_par, ↓r_ret, ↓r_retN, ↓r_drop, ↓r_brk, ↓r_cont, ↓r_raise, ↓r_nil, ↓r_cons, ↓r_tup, ↓r_lst, ↓r_new, ↓r_frz, ↓r_frzP, ↓r_cb, ↓r_call, ↓r_abs, ↓r_max, ↓r_min, ↓r_intI, ↓r_intB, ↓r_lenT, ↓r_lenL, ↓r_lenR, ↓r_lenP, ↓r_listL, ↓r_listR, ↓r_listOL, ↓r_tupleL, ↓r_tupleP, ↓r_isiII, ↓r_isiIB, ↓r_isiBI, ↓r_isiBB, ↓r_isiTT, ↓r_isiLL, ↓r_app, ↓r_appP, ↓r_clr, ↓r_clrP, ↓r_lstP, ↓r_cut, ↓r_onone, ↓r_osome, ↓r_int', ↓r_cutT, ↓r_cutLs, ↓r_cutP, ↓r_range1, ↓r_rg1, ↓rs0, ↓rsS, ↓ite_dec, ↓ite_ndec, ↓put_put, startD, List.length_cons, List.length_nil, and_assoc, and_true, true_and, and_self, or_self, or_false, false_or, or_true, true_or, decide_eq_true_eq, decide_true, decide_false, Bool.not_true, Bool.not_false, Bool.false_eq_true, if_true, if_false, ↓reduceIte, ne_eq, Nat.reduceLeDiff, Nat.reduceAdd, not_false_eq_true, not_true_eq_false, reduceCtorEq, Option.some.injEq, Int.reduceToNat, Int.reducePow, Int.reduceAdd, Int.reduceMul, Int.reduceSub, Int.reduceNeg, Int.reduceEq, List.nil_append, List.cons_append, ↓r_keep, ↓r_isExc, ↓r_indexM, ↓r_lstL, ↓r_eqF, ↓r_neF, ↓r_eqM, ↓r_neM, ↓r_isiFr, ↓r_eqB, ↓r_neB, beq_self_eq_true, ↓r_cutO, ↓r_cutOL, ↓r_cutOP, q0])
      exact ⟨_, _, _, _, _, _, rfl⟩
  · rintro ρ μ1 ⟨x1, x2, x3, x4, x5, x6, rfl⟩
    (try simp only [↓r_wm1, ↓r_wm2, ↓r_wm3, ↓r_wm4, ↓r_forT, ↓r_forI, ↓r_fU0, ↓r_fU1, ↓r_turn, ↓r_yes, ↓r_ofrz, ↓r_oown, ↓r_w0, ↓r_w1, ↓r_w2, ↓r_w3, ↓r_w4, ↓r_lcT, ↓r_lcI, ↓r_lcR, ↓r_cU0, ↓r_cU1, ↓r_s0, ↓r_n0, ↓r_s1, ↓r_n1, ↓r_s2, ↓r_n2, ↓r_s3, ↓r_n3, ↓r_s4, ↓r_n4, ↓r_s5, ↓r_n5, ↓r_s6, ↓r_n6, ↓r_s7, ↓r_n7, ↓r_s8, ↓r_n8, ↓r_s9, ↓r_n9, ↓r_s10, ↓r_n10, ↓r_s11, ↓r_n11, ↓r_s12, ↓r_n12, ↓r_s13, ↓r_n13, ↓r_s14, ↓r_n14, ↓r_s15, ↓r_n15, ↓r_s16, ↓r_n16, ↓r_s17, ↓r_n17, ↓r_s18, ↓r_n18, ↓r_s19, ↓r_n19, ↓r_s20, ↓r_n20, ↓r_s21, ↓r_n21, ↓r_s22, ↓r_n22, ↓r_s23, ↓r_n23, ↓r_s24, ↓r_n24, ↓r_s25, ↓r_n25, ↓r_fr0, ↓r_fr1, ↓r_frL, ↓r_frN, ↓r_frNN, ↓r_max3, ↓r_seq, ↓r_next, ↓r_var0, ↓r_varS, ↓r_c, ↓r_op, ↓r_addI, ↓r_addS, ↓r_addT, ↓r_addL, ↓r_sub, ↓r_mul, ↓r_div, ↓r_mod, ↓r_pow, ↓r_lt, ↓r_le, ↓r_gt, ↓r_ge, ↓r_eqI, ↓r_neI, ↓r_isN, ↓r_isT, ↓r_isI, ↓r_isR, ↓r_inN, ↓r_inT, ↓r_inI, ↓r_ixT, ↓r_ixLs, ↓r_ixRo, ↓r_ixP, ↓r_at0, ↓r_at1, ↓r_at2, ↓r_at3, ↓r_neg, ↓r_negC, ↓r_b, ↓r_bl, ↓r_and, ↓r_or, ↓r_not, ↓r_andV, ↓r_orV, ↓r_notV, ↓r_bl', ↓r_if, ↓r_ifS, ↓r_asg, ↓r_name, ↓r_jnil, ↓r_jcons, ↓r_jtup, ↓r_jlst, ↓r_jlstP, ↓r_jsub, ↓r_jcut, ↓r_jcutP, ↓r_jcutA, ↓r_in2, ↓r_stP, ↓r_st0, ↓r_st1, ↓r_st2, ↓r_par, ↓r_ret, ↓r_retN, ↓r_drop, ↓r_brk, ↓r_cont, ↓r_raise, ↓r_nil, ↓r_cons, ↓r_tup, ↓r_lst, ↓r_new, ↓r_frz, ↓r_frzP, ↓r_cb, ↓r_call, ↓r_abs, ↓r_max, ↓r_min, ↓r_intI, ↓r_intB, ↓r_lenT, ↓r_lenL, ↓r_lenR, ↓r_lenP, ↓r_listL, ↓r_listR, ↓r_listOL, ↓r_tupleL, ↓r_tupleP, ↓r_isiII, ↓r_isiIB, ↓r_isiBI, ↓r_isiBB, ↓r_isiTT, ↓r_isiLL, ↓r_app, ↓r_appP, ↓r_clr, ↓r_clrP, ↓r_lstP, ↓r_cut, ↓r_onone, ↓r_osome, ↓r_int', ↓r_cutT, ↓r_cutLs, ↓r_cutP, ↓r_range1, ↓r_rg1, ↓rs0, ↓rsS, ↓ite_dec, ↓ite_ndec, ↓put_put, startD, List.length_cons, List.length_nil, and_assoc, and_true, true_and, and_self, or_self, or_false, false_or, or_true, true_or, decide_eq_true_eq, decide_true, decide_false, Bool.not_true, Bool.not_false, Bool.false_eq_true, if_true, if_false, ↓reduceIte, ne_eq, Nat.reduceLeDiff, Nat.reduceAdd, not_false_eq_true, not_true_eq_false, reduceCtorEq, Option.some.injEq, Int.reduceToNat, Int.reducePow, Int.reduceAdd, Int.reduceMul, Int.reduceSub, Int.reduceNeg, Int.reduceEq, List.nil_append, List.cons_append, ↓r_keep, ↓r_isExc, ↓r_indexM, ↓r_lstL, ↓r_eqF, ↓r_neF, ↓r_eqM, ↓r_neM, ↓r_isiFr, ↓r_eqB, ↓r_neB, beq_self_eq_true, ↓r_cutO, ↓r_cutOL, ↓r_cutOP])
    exact h _
/-! ### what the top has written; the law's own head -/
theorem all_mk {l : PySem.W.OpenLaw} {w : World} {K : PySem.W.Frag} {h : Heap} {mg : Str → Option Value} {fa : Addr} (X : K.In h) (G : h.Ns mainGlobals mg) (hfa : mg "law" = some (.ref fa))
    {f_divisor : Addr} {od_divisor an_divisor : Option Addr} {sl_divisor : Array (Option Value)} {oc_divisor kV_divisor dc_divisor pm_divisor cd_divisor ct_divisor : Value}
    (a_divisor : PySem.W.nsIn K mainGlobals "divisor" = some (some (.ref f_divisor)))
    (l_divisor : K.lookup f_divisor = some ⟨oc_divisor, od_divisor, .func (PySem.W.fnOf "divisor" "divisor" (defArgs s_divisor) (defBody s_divisor) (defScope s_divisor) .none kV_divisor dc_divisor pm_divisor an_divisor cd_divisor ct_divisor), sl_divisor⟩)
    (c_divisor : PySem.W.codeIn K cd_divisor "divisor" = true)
    (k_divisor : PySem.W.keepIn K (.ref f_divisor) = true)
    {f_is_root : Addr} {od_is_root an_is_root : Option Addr} {sl_is_root : Array (Option Value)} {oc_is_root kV_is_root dc_is_root pm_is_root cd_is_root ct_is_root : Value}
    (a_is_root : PySem.W.nsIn K mainGlobals "is_root" = some (some (.ref f_is_root)))
    (l_is_root : K.lookup f_is_root = some ⟨oc_is_root, od_is_root, .func (PySem.W.fnOf "is_root" "is_root" (defArgs s_is_root) (defBody s_is_root) (defScope s_is_root) .none kV_is_root dc_is_root pm_is_root an_is_root cd_is_root ct_is_root), sl_is_root⟩)
    (c_is_root : PySem.W.codeIn K cd_is_root "is_root" = true)
    (k_is_root : PySem.W.keepIn K (.ref f_is_root) = true)
    {f_fractions_of : Addr} {od_fractions_of an_fractions_of : Option Addr} {sl_fractions_of : Array (Option Value)} {oc_fractions_of kV_fractions_of dc_fractions_of pm_fractions_of cd_fractions_of ct_fractions_of : Value}
    (a_fractions_of : PySem.W.nsIn K mainGlobals "fractions_of" = some (some (.ref f_fractions_of)))
    (l_fractions_of : K.lookup f_fractions_of = some ⟨oc_fractions_of, od_fractions_of, .func (PySem.W.fnOf "fractions_of" "fractions_of" (defArgs s_fractions_of) (defBody s_fractions_of) (defScope s_fractions_of) .none kV_fractions_of dc_fractions_of pm_fractions_of an_fractions_of cd_fractions_of ct_fractions_of), sl_fractions_of⟩)
    (c_fractions_of : PySem.W.codeIn K cd_fractions_of "fractions_of" = true)
    (k_fractions_of : PySem.W.keepIn K (.ref f_fractions_of) = true)
    {f__law_mixed : Addr} {od__law_mixed an__law_mixed : Option Addr} {sl__law_mixed : Array (Option Value)} {oc__law_mixed kV__law_mixed dc__law_mixed pm__law_mixed cd__law_mixed ct__law_mixed : Value}
    (a__law_mixed : PySem.W.nsIn K mainGlobals "_law_mixed" = some (some (.ref f__law_mixed)))
    (l__law_mixed : K.lookup f__law_mixed = some ⟨oc__law_mixed, od__law_mixed, .func (PySem.W.fnOf "_law_mixed" "_law_mixed" (defArgs s__law_mixed) (defBody s__law_mixed) (defScope s__law_mixed) .none kV__law_mixed dc__law_mixed pm__law_mixed an__law_mixed cd__law_mixed ct__law_mixed), sl__law_mixed⟩)
    (c__law_mixed : PySem.W.codeIn K cd__law_mixed "_law_mixed" = true)
    (k__law_mixed : PySem.W.keepIn K (.ref f__law_mixed) = true)
    {f__law_at : Addr} {od__law_at an__law_at : Option Addr} {sl__law_at : Array (Option Value)} {oc__law_at kV__law_at dc__law_at pm__law_at cd__law_at ct__law_at : Value}
    (a__law_at : PySem.W.nsIn K mainGlobals "_law_at" = some (some (.ref f__law_at)))
    (l__law_at : K.lookup f__law_at = some ⟨oc__law_at, od__law_at, .func (PySem.W.fnOf "_law_at" "_law_at" (defArgs s__law_at) (defBody s__law_at) (defScope s__law_at) .none kV__law_at dc__law_at pm__law_at an__law_at cd__law_at ct__law_at), sl__law_at⟩)
    (c__law_at : PySem.W.codeIn K cd__law_at "_law_at" = true)
    (k__law_at : PySem.W.keepIn K (.ref f__law_at) = true)
    {f__law_low : Addr} {od__law_low an__law_low : Option Addr} {sl__law_low : Array (Option Value)} {oc__law_low kV__law_low dc__law_low pm__law_low cd__law_low ct__law_low : Value}
    (a__law_low : PySem.W.nsIn K mainGlobals "_law_low" = some (some (.ref f__law_low)))
    (l__law_low : K.lookup f__law_low = some ⟨oc__law_low, od__law_low, .func (PySem.W.fnOf "_law_low" "_law_low" (defArgs s__law_low) (defBody s__law_low) (defScope s__law_low) .none kV__law_low dc__law_low pm__law_low an__law_low cd__law_low ct__law_low), sl__law_low⟩)
    (c__law_low : PySem.W.codeIn K cd__law_low "_law_low" = true)
    (k__law_low : PySem.W.keepIn K (.ref f__law_low) = true)
    {f__law_square_root : Addr} {od__law_square_root an__law_square_root : Option Addr} {sl__law_square_root : Array (Option Value)} {oc__law_square_root kV__law_square_root dc__law_square_root pm__law_square_root cd__law_square_root ct__law_square_root : Value}
    (a__law_square_root : PySem.W.nsIn K mainGlobals "_law_square_root" = some (some (.ref f__law_square_root)))
    (l__law_square_root : K.lookup f__law_square_root = some ⟨oc__law_square_root, od__law_square_root, .func (PySem.W.fnOf "_law_square_root" "_law_square_root" (defArgs s__law_square_root) (defBody s__law_square_root) (defScope s__law_square_root) .none kV__law_square_root dc__law_square_root pm__law_square_root an__law_square_root cd__law_square_root ct__law_square_root), sl__law_square_root⟩)
    (c__law_square_root : PySem.W.codeIn K cd__law_square_root "_law_square_root" = true)
    (k__law_square_root : PySem.W.keepIn K (.ref f__law_square_root) = true)
    {f__law_common : Addr} {od__law_common an__law_common : Option Addr} {sl__law_common : Array (Option Value)} {oc__law_common kV__law_common dc__law_common pm__law_common cd__law_common ct__law_common : Value}
    (a__law_common : PySem.W.nsIn K mainGlobals "_law_common" = some (some (.ref f__law_common)))
    (l__law_common : K.lookup f__law_common = some ⟨oc__law_common, od__law_common, .func (PySem.W.fnOf "_law_common" "_law_common" (defArgs s__law_common) (defBody s__law_common) (defScope s__law_common) .none kV__law_common dc__law_common pm__law_common an__law_common cd__law_common ct__law_common), sl__law_common⟩)
    (c__law_common : PySem.W.codeIn K cd__law_common "_law_common" = true)
    (k__law_common : PySem.W.keepIn K (.ref f__law_common) = true)
    {f__law_class : Addr} {od__law_class an__law_class : Option Addr} {sl__law_class : Array (Option Value)} {oc__law_class kV__law_class dc__law_class pm__law_class cd__law_class ct__law_class : Value}
    (a__law_class : PySem.W.nsIn K mainGlobals "_law_class" = some (some (.ref f__law_class)))
    (l__law_class : K.lookup f__law_class = some ⟨oc__law_class, od__law_class, .func (PySem.W.fnOf "_law_class" "_law_class" (defArgs s__law_class) (defBody s__law_class) (defScope s__law_class) .none kV__law_class dc__law_class pm__law_class an__law_class cd__law_class ct__law_class), sl__law_class⟩)
    (c__law_class : PySem.W.codeIn K cd__law_class "_law_class" = true)
    (k__law_class : PySem.W.keepIn K (.ref f__law_class) = true)
    {f_fraction : Addr} {od_fraction an_fraction : Option Addr} {sl_fraction : Array (Option Value)} {oc_fraction kV_fraction dc_fraction pm_fraction cd_fraction ct_fraction : Value}
    (a_fraction : PySem.W.nsIn K mainGlobals "fraction" = some (some (.ref f_fraction)))
    (l_fraction : K.lookup f_fraction = some ⟨oc_fraction, od_fraction, .func (PySem.W.fnOf "fraction" "fraction" (defArgs s_fraction) (defBody s_fraction) (defScope s_fraction) .none kV_fraction dc_fraction pm_fraction an_fraction cd_fraction ct_fraction), sl_fraction⟩)
    (c_fraction : PySem.W.codeIn K cd_fraction "fraction" = true)
    (k_fraction : PySem.W.keepIn K (.ref f_fraction) = true)
    {f_whole_curve : Addr} {od_whole_curve an_whole_curve : Option Addr} {sl_whole_curve : Array (Option Value)} {oc_whole_curve kV_whole_curve dc_whole_curve pm_whole_curve cd_whole_curve ct_whole_curve : Value}
    (a_whole_curve : PySem.W.nsIn K mainGlobals "whole_curve" = some (some (.ref f_whole_curve)))
    (l_whole_curve : K.lookup f_whole_curve = some ⟨oc_whole_curve, od_whole_curve, .func (PySem.W.fnOf "whole_curve" "whole_curve" (defArgs s_whole_curve) (defBody s_whole_curve) (defScope s_whole_curve) .none kV_whole_curve dc_whole_curve pm_whole_curve an_whole_curve cd_whole_curve ct_whole_curve), sl_whole_curve⟩)
    (c_whole_curve : PySem.W.codeIn K cd_whole_curve "whole_curve" = true)
    (k_whole_curve : PySem.W.keepIn K (.ref f_whole_curve) = true)
    {f__law_purse : Addr} {od__law_purse an__law_purse : Option Addr} {sl__law_purse : Array (Option Value)} {oc__law_purse kV__law_purse dc__law_purse pm__law_purse cd__law_purse ct__law_purse : Value}
    (a__law_purse : PySem.W.nsIn K mainGlobals "_law_purse" = some (some (.ref f__law_purse)))
    (l__law_purse : K.lookup f__law_purse = some ⟨oc__law_purse, od__law_purse, .func (PySem.W.fnOf "_law_purse" "_law_purse" (defArgs s__law_purse) (defBody s__law_purse) (defScope s__law_purse) .none kV__law_purse dc__law_purse pm__law_purse an__law_purse cd__law_purse ct__law_purse), sl__law_purse⟩)
    (c__law_purse : PySem.W.codeIn K cd__law_purse "_law_purse" = true)
    (k__law_purse : PySem.W.keepIn K (.ref f__law_purse) = true)
    {f__law_take : Addr} {od__law_take an__law_take : Option Addr} {sl__law_take : Array (Option Value)} {oc__law_take kV__law_take dc__law_take pm__law_take cd__law_take ct__law_take : Value}
    (a__law_take : PySem.W.nsIn K mainGlobals "_law_take" = some (some (.ref f__law_take)))
    (l__law_take : K.lookup f__law_take = some ⟨oc__law_take, od__law_take, .func (PySem.W.fnOf "_law_take" "_law_take" (defArgs s__law_take) (defBody s__law_take) (defScope s__law_take) .none kV__law_take dc__law_take pm__law_take an__law_take cd__law_take ct__law_take), sl__law_take⟩)
    (c__law_take : PySem.W.codeIn K cd__law_take "_law_take" = true)
    (k__law_take : PySem.W.keepIn K (.ref f__law_take) = true)
    {f__law_plus : Addr} {od__law_plus an__law_plus : Option Addr} {sl__law_plus : Array (Option Value)} {oc__law_plus kV__law_plus dc__law_plus pm__law_plus cd__law_plus ct__law_plus : Value}
    (a__law_plus : PySem.W.nsIn K mainGlobals "_law_plus" = some (some (.ref f__law_plus)))
    (l__law_plus : K.lookup f__law_plus = some ⟨oc__law_plus, od__law_plus, .func (PySem.W.fnOf "_law_plus" "_law_plus" (defArgs s__law_plus) (defBody s__law_plus) (defScope s__law_plus) .none kV__law_plus dc__law_plus pm__law_plus an__law_plus cd__law_plus ct__law_plus), sl__law_plus⟩)
    (c__law_plus : PySem.W.codeIn K cd__law_plus "_law_plus" = true)
    (k__law_plus : PySem.W.keepIn K (.ref f__law_plus) = true)
    {f__law_less : Addr} {od__law_less an__law_less : Option Addr} {sl__law_less : Array (Option Value)} {oc__law_less kV__law_less dc__law_less pm__law_less cd__law_less ct__law_less : Value}
    (a__law_less : PySem.W.nsIn K mainGlobals "_law_less" = some (some (.ref f__law_less)))
    (l__law_less : K.lookup f__law_less = some ⟨oc__law_less, od__law_less, .func (PySem.W.fnOf "_law_less" "_law_less" (defArgs s__law_less) (defBody s__law_less) (defScope s__law_less) .none kV__law_less dc__law_less pm__law_less an__law_less cd__law_less ct__law_less), sl__law_less⟩)
    (c__law_less : PySem.W.codeIn K cd__law_less "_law_less" = true)
    (k__law_less : PySem.W.keepIn K (.ref f__law_less) = true)
    {f__law_by : Addr} {od__law_by an__law_by : Option Addr} {sl__law_by : Array (Option Value)} {oc__law_by kV__law_by dc__law_by pm__law_by cd__law_by ct__law_by : Value}
    (a__law_by : PySem.W.nsIn K mainGlobals "_law_by" = some (some (.ref f__law_by)))
    (l__law_by : K.lookup f__law_by = some ⟨oc__law_by, od__law_by, .func (PySem.W.fnOf "_law_by" "_law_by" (defArgs s__law_by) (defBody s__law_by) (defScope s__law_by) .none kV__law_by dc__law_by pm__law_by an__law_by cd__law_by ct__law_by), sl__law_by⟩)
    (c__law_by : PySem.W.codeIn K cd__law_by "_law_by" = true)
    (k__law_by : PySem.W.keepIn K (.ref f__law_by) = true)
    {f__law_root : Addr} {od__law_root an__law_root : Option Addr} {sl__law_root : Array (Option Value)} {oc__law_root kV__law_root dc__law_root pm__law_root cd__law_root ct__law_root : Value}
    (a__law_root : PySem.W.nsIn K mainGlobals "_law_root" = some (some (.ref f__law_root)))
    (l__law_root : K.lookup f__law_root = some ⟨oc__law_root, od__law_root, .func (PySem.W.fnOf "_law_root" "_law_root" (defArgs s__law_root) (defBody s__law_root) (defScope s__law_root) .none kV__law_root dc__law_root pm__law_root an__law_root cd__law_root ct__law_root), sl__law_root⟩)
    (c__law_root : PySem.W.codeIn K cd__law_root "_law_root" = true)
    (k__law_root : PySem.W.keepIn K (.ref f__law_root) = true)
    {f_plus : Addr} {od_plus an_plus : Option Addr} {sl_plus : Array (Option Value)} {oc_plus kV_plus dc_plus pm_plus cd_plus ct_plus : Value}
    (a_plus : PySem.W.nsIn K mainGlobals "plus" = some (some (.ref f_plus)))
    (l_plus : K.lookup f_plus = some ⟨oc_plus, od_plus, .func (PySem.W.fnOf "plus" "plus" (defArgs s_plus) (defBody s_plus) (defScope s_plus) .none kV_plus dc_plus pm_plus an_plus cd_plus ct_plus), sl_plus⟩)
    (c_plus : PySem.W.codeIn K cd_plus "plus" = true)
    (k_plus : PySem.W.keepIn K (.ref f_plus) = true)
    {f_minus : Addr} {od_minus an_minus : Option Addr} {sl_minus : Array (Option Value)} {oc_minus kV_minus dc_minus pm_minus cd_minus ct_minus : Value}
    (a_minus : PySem.W.nsIn K mainGlobals "minus" = some (some (.ref f_minus)))
    (l_minus : K.lookup f_minus = some ⟨oc_minus, od_minus, .func (PySem.W.fnOf "minus" "minus" (defArgs s_minus) (defBody s_minus) (defScope s_minus) .none kV_minus dc_minus pm_minus an_minus cd_minus ct_minus), sl_minus⟩)
    (c_minus : PySem.W.codeIn K cd_minus "minus" = true)
    (k_minus : PySem.W.keepIn K (.ref f_minus) = true)
    {f_times : Addr} {od_times an_times : Option Addr} {sl_times : Array (Option Value)} {oc_times kV_times dc_times pm_times cd_times ct_times : Value}
    (a_times : PySem.W.nsIn K mainGlobals "times" = some (some (.ref f_times)))
    (l_times : K.lookup f_times = some ⟨oc_times, od_times, .func (PySem.W.fnOf "times" "times" (defArgs s_times) (defBody s_times) (defScope s_times) .none kV_times dc_times pm_times an_times cd_times ct_times), sl_times⟩)
    (c_times : PySem.W.codeIn K cd_times "times" = true)
    (k_times : PySem.W.keepIn K (.ref f_times) = true)
    {f_told_root : Addr} {od_told_root an_told_root : Option Addr} {sl_told_root : Array (Option Value)} {oc_told_root kV_told_root dc_told_root pm_told_root cd_told_root ct_told_root : Value}
    (a_told_root : PySem.W.nsIn K mainGlobals "told_root" = some (some (.ref f_told_root)))
    (l_told_root : K.lookup f_told_root = some ⟨oc_told_root, od_told_root, .func (PySem.W.fnOf "told_root" "told_root" (defArgs s_told_root) (defBody s_told_root) (defScope s_told_root) .none kV_told_root dc_told_root pm_told_root an_told_root cd_told_root ct_told_root), sl_told_root⟩)
    (c_told_root : PySem.W.codeIn K cd_told_root "told_root" = true)
    (k_told_root : PySem.W.keepIn K (.ref f_told_root) = true)
    {f__law_number : Addr} {od__law_number an__law_number : Option Addr} {sl__law_number : Array (Option Value)} {oc__law_number kV__law_number dc__law_number pm__law_number cd__law_number ct__law_number : Value}
    (a__law_number : PySem.W.nsIn K mainGlobals "_law_number" = some (some (.ref f__law_number)))
    (l__law_number : K.lookup f__law_number = some ⟨oc__law_number, od__law_number, .func (PySem.W.fnOf "_law_number" "_law_number" (defArgs s__law_number) (defBody s__law_number) (defScope s__law_number) .none kV__law_number dc__law_number pm__law_number an__law_number cd__law_number ct__law_number), sl__law_number⟩)
    (c__law_number : PySem.W.codeIn K cd__law_number "_law_number" = true)
    (k__law_number : PySem.W.keepIn K (.ref f__law_number) = true)
    {f__law_great : Addr} {od__law_great an__law_great : Option Addr} {sl__law_great : Array (Option Value)} {oc__law_great kV__law_great dc__law_great pm__law_great cd__law_great ct__law_great : Value}
    (a__law_great : PySem.W.nsIn K mainGlobals "_law_great" = some (some (.ref f__law_great)))
    (l__law_great : K.lookup f__law_great = some ⟨oc__law_great, od__law_great, .func (PySem.W.fnOf "_law_great" "_law_great" (defArgs s__law_great) (defBody s__law_great) (defScope s__law_great) .none kV__law_great dc__law_great pm__law_great an__law_great cd__law_great ct__law_great), sl__law_great⟩)
    (c__law_great : PySem.W.codeIn K cd__law_great "_law_great" = true)
    (k__law_great : PySem.W.keepIn K (.ref f__law_great) = true)
    {f__law_great_root : Addr} {od__law_great_root an__law_great_root : Option Addr} {sl__law_great_root : Array (Option Value)} {oc__law_great_root kV__law_great_root dc__law_great_root pm__law_great_root cd__law_great_root ct__law_great_root : Value}
    (a__law_great_root : PySem.W.nsIn K mainGlobals "_law_great_root" = some (some (.ref f__law_great_root)))
    (l__law_great_root : K.lookup f__law_great_root = some ⟨oc__law_great_root, od__law_great_root, .func (PySem.W.fnOf "_law_great_root" "_law_great_root" (defArgs s__law_great_root) (defBody s__law_great_root) (defScope s__law_great_root) .none kV__law_great_root dc__law_great_root pm__law_great_root an__law_great_root cd__law_great_root ct__law_great_root), sl__law_great_root⟩)
    (c__law_great_root : PySem.W.codeIn K cd__law_great_root "_law_great_root" = true)
    (k__law_great_root : PySem.W.keepIn K (.ref f__law_great_root) = true)
    {f__law_of_curve : Addr} {od__law_of_curve an__law_of_curve : Option Addr} {sl__law_of_curve : Array (Option Value)} {oc__law_of_curve kV__law_of_curve dc__law_of_curve pm__law_of_curve cd__law_of_curve ct__law_of_curve : Value}
    (a__law_of_curve : PySem.W.nsIn K mainGlobals "_law_of_curve" = some (some (.ref f__law_of_curve)))
    (l__law_of_curve : K.lookup f__law_of_curve = some ⟨oc__law_of_curve, od__law_of_curve, .func (PySem.W.fnOf "_law_of_curve" "_law_of_curve" (defArgs s__law_of_curve) (defBody s__law_of_curve) (defScope s__law_of_curve) .none kV__law_of_curve dc__law_of_curve pm__law_of_curve an__law_of_curve cd__law_of_curve ct__law_of_curve), sl__law_of_curve⟩)
    (c__law_of_curve : PySem.W.codeIn K cd__law_of_curve "_law_of_curve" = true)
    (k__law_of_curve : PySem.W.keepIn K (.ref f__law_of_curve) = true)
    {f_worth_at : Addr} {od_worth_at an_worth_at : Option Addr} {sl_worth_at : Array (Option Value)} {oc_worth_at kV_worth_at dc_worth_at pm_worth_at cd_worth_at ct_worth_at : Value}
    (a_worth_at : PySem.W.nsIn K mainGlobals "worth_at" = some (some (.ref f_worth_at)))
    (l_worth_at : K.lookup f_worth_at = some ⟨oc_worth_at, od_worth_at, .func (PySem.W.fnOf "worth_at" "worth_at" (defArgs s_worth_at) (defBody s_worth_at) (defScope s_worth_at) .none kV_worth_at dc_worth_at pm_worth_at an_worth_at cd_worth_at ct_worth_at), sl_worth_at⟩)
    (c_worth_at : PySem.W.codeIn K cd_worth_at "worth_at" = true)
    (k_worth_at : PySem.W.keepIn K (.ref f_worth_at) = true)
    {f_grown_by : Addr} {od_grown_by an_grown_by : Option Addr} {sl_grown_by : Array (Option Value)} {oc_grown_by kV_grown_by dc_grown_by pm_grown_by cd_grown_by ct_grown_by : Value}
    (a_grown_by : PySem.W.nsIn K mainGlobals "grown_by" = some (some (.ref f_grown_by)))
    (l_grown_by : K.lookup f_grown_by = some ⟨oc_grown_by, od_grown_by, .func (PySem.W.fnOf "grown_by" "grown_by" (defArgs s_grown_by) (defBody s_grown_by) (defScope s_grown_by) .none kV_grown_by dc_grown_by pm_grown_by an_grown_by cd_grown_by ct_grown_by), sl_grown_by⟩)
    (c_grown_by : PySem.W.codeIn K cd_grown_by "grown_by" = true)
    (k_grown_by : PySem.W.keepIn K (.ref f_grown_by) = true)
    {f__law_moment : Addr} {od__law_moment an__law_moment : Option Addr} {sl__law_moment : Array (Option Value)} {oc__law_moment kV__law_moment dc__law_moment pm__law_moment cd__law_moment ct__law_moment : Value}
    (a__law_moment : PySem.W.nsIn K mainGlobals "_law_moment" = some (some (.ref f__law_moment)))
    (l__law_moment : K.lookup f__law_moment = some ⟨oc__law_moment, od__law_moment, .func (PySem.W.fnOf "_law_moment" "_law_moment" (defArgs s__law_moment) (defBody s__law_moment) (defScope s__law_moment) .none kV__law_moment dc__law_moment pm__law_moment an__law_moment cd__law_moment ct__law_moment), sl__law_moment⟩)
    (c__law_moment : PySem.W.codeIn K cd__law_moment "_law_moment" = true)
    (k__law_moment : PySem.W.keepIn K (.ref f__law_moment) = true)
    {f__law_moved : Addr} {od__law_moved an__law_moved : Option Addr} {sl__law_moved : Array (Option Value)} {oc__law_moved kV__law_moved dc__law_moved pm__law_moved cd__law_moved ct__law_moved : Value}
    (a__law_moved : PySem.W.nsIn K mainGlobals "_law_moved" = some (some (.ref f__law_moved)))
    (l__law_moved : K.lookup f__law_moved = some ⟨oc__law_moved, od__law_moved, .func (PySem.W.fnOf "_law_moved" "_law_moved" (defArgs s__law_moved) (defBody s__law_moved) (defScope s__law_moved) .none kV__law_moved dc__law_moved pm__law_moved an__law_moved cd__law_moved ct__law_moved), sl__law_moved⟩)
    (c__law_moved : PySem.W.codeIn K cd__law_moved "_law_moved" = true)
    (k__law_moved : PySem.W.keepIn K (.ref f__law_moved) = true)
    {f__law_grown : Addr} {od__law_grown an__law_grown : Option Addr} {sl__law_grown : Array (Option Value)} {oc__law_grown kV__law_grown dc__law_grown pm__law_grown cd__law_grown ct__law_grown : Value}
    (a__law_grown : PySem.W.nsIn K mainGlobals "_law_grown" = some (some (.ref f__law_grown)))
    (l__law_grown : K.lookup f__law_grown = some ⟨oc__law_grown, od__law_grown, .func (PySem.W.fnOf "_law_grown" "_law_grown" (defArgs s__law_grown) (defBody s__law_grown) (defScope s__law_grown) .none kV__law_grown dc__law_grown pm__law_grown an__law_grown cd__law_grown ct__law_grown), sl__law_grown⟩)
    (c__law_grown : PySem.W.codeIn K cd__law_grown "_law_grown" = true)
    (k__law_grown : PySem.W.keepIn K (.ref f__law_grown) = true)
    {f_moved_by : Addr} {od_moved_by an_moved_by : Option Addr} {sl_moved_by : Array (Option Value)} {oc_moved_by kV_moved_by dc_moved_by pm_moved_by cd_moved_by ct_moved_by : Value}
    (a_moved_by : PySem.W.nsIn K mainGlobals "moved_by" = some (some (.ref f_moved_by)))
    (l_moved_by : K.lookup f_moved_by = some ⟨oc_moved_by, od_moved_by, .func (PySem.W.fnOf "moved_by" "moved_by" (defArgs s_moved_by) (defBody s_moved_by) (defScope s_moved_by) .none kV_moved_by dc_moved_by pm_moved_by an_moved_by cd_moved_by ct_moved_by), sl_moved_by⟩)
    (c_moved_by : PySem.W.codeIn K cd_moved_by "moved_by" = true)
    (k_moved_by : PySem.W.keepIn K (.ref f_moved_by) = true)
    {f__law_any : Addr} {od__law_any an__law_any : Option Addr} {sl__law_any : Array (Option Value)} {oc__law_any kV__law_any dc__law_any pm__law_any cd__law_any ct__law_any : Value}
    (a__law_any : PySem.W.nsIn K mainGlobals "_law_any" = some (some (.ref f__law_any)))
    (l__law_any : K.lookup f__law_any = some ⟨oc__law_any, od__law_any, .func (PySem.W.fnOf "_law_any" "_law_any" (defArgs s__law_any) (defBody s__law_any) (defScope s__law_any) .none kV__law_any dc__law_any pm__law_any an__law_any cd__law_any ct__law_any), sl__law_any⟩)
    (c__law_any : PySem.W.codeIn K cd__law_any "_law_any" = true)
    (k__law_any : PySem.W.keepIn K (.ref f__law_any) = true)
    {f__law_told : Addr} {od__law_told an__law_told : Option Addr} {sl__law_told : Array (Option Value)} {oc__law_told kV__law_told dc__law_told pm__law_told cd__law_told ct__law_told : Value}
    (a__law_told : PySem.W.nsIn K mainGlobals "_law_told" = some (some (.ref f__law_told)))
    (l__law_told : K.lookup f__law_told = some ⟨oc__law_told, od__law_told, .func (PySem.W.fnOf "_law_told" "_law_told" (defArgs s__law_told) (defBody s__law_told) (defScope s__law_told) .none kV__law_told dc__law_told pm__law_told an__law_told cd__law_told ct__law_told), sl__law_told⟩)
    (c__law_told : PySem.W.codeIn K cd__law_told "_law_told" = true)
    (k__law_told : PySem.W.keepIn K (.ref f__law_told) = true)
    {f_law : Addr} {od_law an_law : Option Addr} {sl_law : Array (Option Value)} {oc_law kV_law dc_law pm_law cd_law ct_law : Value}
    (a_law : PySem.W.nsIn K mainGlobals "law" = some (some (.ref f_law)))
    (l_law : K.lookup f_law = some ⟨oc_law, od_law, .func (PySem.W.fnOf "law" "law" (defArgs s_law) (defBody s_law) (defScope s_law) .none kV_law dc_law pm_law an_law cd_law ct_law), sl_law⟩)
    (c_law : PySem.W.codeIn K cd_law "law" = true)
    (k_law : PySem.W.keepIn K (.ref f_law) = true)
    (z_abs : PySem.W.nsIn K mainGlobals "abs" = some none)
    (z_len : PySem.W.nsIn K mainGlobals "len" = some none)
    (z_tuple : PySem.W.nsIn K mainGlobals "tuple" = some none)
    (z_int : PySem.W.nsIn K mainGlobals "int" = some none)
    (z_isinstance : PySem.W.nsIn K mainGlobals "isinstance" = some none)
    (z_sum : PySem.W.nsIn K mainGlobals "sum" = some none)
    (z_ValueError : PySem.W.nsIn K mainGlobals "ValueError" = some none)
    (z_str : PySem.W.nsIn K mainGlobals "str" = some none)
    (z_range : PySem.W.nsIn K mainGlobals "range" = some none)
    (z_min : PySem.W.nsIn K mainGlobals "min" = some none)
    {b_NOUGHT : Addr} {ts_NOUGHT tu_NOUGHT : Tok} {tn_NOUGHT : Nat} {td_NOUGHT : Option Addr} {tl_NOUGHT : Array (Option Value)} (ca_NOUGHT : PySem.W.nsIn K mainGlobals "NOUGHT" = some (some (.ref b_NOUGHT)))
    (cl_NOUGHT : K.lookup b_NOUGHT = some ⟨.type "tuple", td_NOUGHT, .seq #[.int (0) ts_NOUGHT, .int (1) tu_NOUGHT] tn_NOUGHT, tl_NOUGHT⟩)
    {e_NoFraction : Addr}
    (xa_NoFraction : PySem.W.nsIn K mainGlobals "NoFraction" = some (some (.ref e_NoFraction)))
    {e_NoBetween : Addr}
    (xa_NoBetween : PySem.W.nsIn K mainGlobals "NoBetween" = some (some (.ref e_NoBetween)))
    {e_NoCurve : Addr}
    (xa_NoCurve : PySem.W.nsIn K mainGlobals "NoCurve" = some (some (.ref e_NoCurve)))
    {e_Taken : Addr}
    (xa_Taken : PySem.W.nsIn K mainGlobals "Taken" = some (some (.ref e_Taken)))
    {e_NoName : Addr}
    (xa_NoName : PySem.W.nsIn K mainGlobals "NoName" = some (some (.ref e_NoName)))
    {e_NoWord : Addr}
    (xa_NoWord : PySem.W.nsIn K mainGlobals "NoWord" = some (some (.ref e_NoWord)))
    {e_Past : Addr}
    (xa_Past : PySem.W.nsIn K mainGlobals "Past" = some (some (.ref e_Past)))
    {e_Missing : Addr}
    (xa_Missing : PySem.W.nsIn K mainGlobals "Missing" = some (some (.ref e_Missing)))
    {e_Full : Addr}
    (xa_Full : PySem.W.nsIn K mainGlobals "Full" = some (some (.ref e_Full)))
    {e_NoDistance : Addr}
    (xa_NoDistance : PySem.W.nsIn K mainGlobals "NoDistance" = some (some (.ref e_NoDistance)))
    {e_NoMoment : Addr}
    (xa_NoMoment : PySem.W.nsIn K mainGlobals "NoMoment" = some (some (.ref e_NoMoment)))
    {e_NoDeed : Addr}
    (xa_NoDeed : PySem.W.nsIn K mainGlobals "NoDeed" = some (some (.ref e_NoDeed)))
    {e_NoLine : Addr}
    (xa_NoLine : PySem.W.nsIn K mainGlobals "NoLine" = some (some (.ref e_NoLine)))
    {e_NoText : Addr}
    (xa_NoText : PySem.W.nsIn K mainGlobals "NoText" = some (some (.ref e_NoText)))
    {e_PaceError : Addr}
    (xa_PaceError : PySem.W.nsIn K mainGlobals "PaceError" = some (some (.ref e_PaceError)))
    (xq_NoFraction : PySem.W.excIn K e_NoFraction [.type "ValueError", .type "Exception", .type "BaseException", .type "object"] "ValueError.__new__" = true)
    (xk_NoFraction : PySem.W.keepIn K (.ref e_NoFraction) = true)
    (xb_NoFraction : PySem.W.subIn K (.ref e_NoFraction) (.type "BaseException") = some true)
    (xt_NoFraction : PySem.W.typeIn K (.ref e_NoFraction) = some (.type "type"))
    (echg_NoFraction : PySem.W.findIn K (.ref e_NoFraction) (Str.ofString "__getattribute__") = some (some (.builtin "BaseException.__getattribute__")))
    (echk_NoFraction : PySem.W.findIn K (.ref e_NoFraction) (Str.ofString "__getattr__") = some none)
    (echd_NoFraction : PySem.W.hasDictIn K e_NoFraction = true)
    (echa_NoFraction : PySem.W.findIn K (.ref e_NoFraction) (Str.ofString "__class__") = some (some (.builtin "object.__class__")))
    (echn : PySem.W.specialIn K (.builtin "object.__class__") (Str.ofString "__get__") = some (some (.builtin "getset_descriptor.__get__")))
    (echt : PySem.W.takesIn K (.builtin "object.__class__") = some true)
    (echm_NoFraction : PySem.W.mroIn K e_NoFraction (.type "object") = some true)
    (xi_NoBetween : PySem.W.isClsIn K e_NoBetween = true)
    (xt_NoBetween : PySem.W.typeIn K (.ref e_NoBetween) = some (.type "type"))
    (su_NoFraction_NoBetween : PySem.W.subIn K (.ref e_NoFraction) (.ref e_NoBetween) = some false)
    (su_NoFraction_NoFraction : PySem.W.subIn K (.ref e_NoFraction) (.ref e_NoFraction) = some true)
    (xi_NoCurve : PySem.W.isClsIn K e_NoCurve = true)
    (xt_NoCurve : PySem.W.typeIn K (.ref e_NoCurve) = some (.type "type"))
    (su_NoFraction_NoCurve : PySem.W.subIn K (.ref e_NoFraction) (.ref e_NoCurve) = some false)
    (xi_NoFraction : PySem.W.isClsIn K e_NoFraction = true)
    (xi_Taken : PySem.W.isClsIn K e_Taken = true)
    (xt_Taken : PySem.W.typeIn K (.ref e_Taken) = some (.type "type"))
    (su_NoFraction_Taken : PySem.W.subIn K (.ref e_NoFraction) (.ref e_Taken) = some false)
    (xi_NoName : PySem.W.isClsIn K e_NoName = true)
    (xt_NoName : PySem.W.typeIn K (.ref e_NoName) = some (.type "type"))
    (su_NoFraction_NoName : PySem.W.subIn K (.ref e_NoFraction) (.ref e_NoName) = some false)
    (xi_NoWord : PySem.W.isClsIn K e_NoWord = true)
    (xt_NoWord : PySem.W.typeIn K (.ref e_NoWord) = some (.type "type"))
    (su_NoFraction_NoWord : PySem.W.subIn K (.ref e_NoFraction) (.ref e_NoWord) = some false)
    (xi_Past : PySem.W.isClsIn K e_Past = true)
    (xt_Past : PySem.W.typeIn K (.ref e_Past) = some (.type "type"))
    (su_NoFraction_Past : PySem.W.subIn K (.ref e_NoFraction) (.ref e_Past) = some false)
    (xi_Missing : PySem.W.isClsIn K e_Missing = true)
    (xt_Missing : PySem.W.typeIn K (.ref e_Missing) = some (.type "type"))
    (su_NoFraction_Missing : PySem.W.subIn K (.ref e_NoFraction) (.ref e_Missing) = some false)
    (xi_Full : PySem.W.isClsIn K e_Full = true)
    (xt_Full : PySem.W.typeIn K (.ref e_Full) = some (.type "type"))
    (su_NoFraction_Full : PySem.W.subIn K (.ref e_NoFraction) (.ref e_Full) = some false)
    (xi_NoDistance : PySem.W.isClsIn K e_NoDistance = true)
    (xt_NoDistance : PySem.W.typeIn K (.ref e_NoDistance) = some (.type "type"))
    (su_NoFraction_NoDistance : PySem.W.subIn K (.ref e_NoFraction) (.ref e_NoDistance) = some false)
    (xi_NoMoment : PySem.W.isClsIn K e_NoMoment = true)
    (xt_NoMoment : PySem.W.typeIn K (.ref e_NoMoment) = some (.type "type"))
    (su_NoFraction_NoMoment : PySem.W.subIn K (.ref e_NoFraction) (.ref e_NoMoment) = some false)
    (xi_NoDeed : PySem.W.isClsIn K e_NoDeed = true)
    (xt_NoDeed : PySem.W.typeIn K (.ref e_NoDeed) = some (.type "type"))
    (su_NoFraction_NoDeed : PySem.W.subIn K (.ref e_NoFraction) (.ref e_NoDeed) = some false)
    (xi_NoLine : PySem.W.isClsIn K e_NoLine = true)
    (xt_NoLine : PySem.W.typeIn K (.ref e_NoLine) = some (.type "type"))
    (su_NoFraction_NoLine : PySem.W.subIn K (.ref e_NoFraction) (.ref e_NoLine) = some false)
    (xi_NoText : PySem.W.isClsIn K e_NoText = true)
    (xt_NoText : PySem.W.typeIn K (.ref e_NoText) = some (.type "type"))
    (su_NoFraction_NoText : PySem.W.subIn K (.ref e_NoFraction) (.ref e_NoText) = some false)
    (suT_NoFraction : PySem.W.subIn K (.ref e_NoFraction) (.type "ValueError") = some true)
    (xi_PaceError : PySem.W.isClsIn K e_PaceError = true)
    (xt_PaceError : PySem.W.typeIn K (.ref e_PaceError) = some (.type "type"))
    (su_NoFraction_PaceError : PySem.W.subIn K (.ref e_NoFraction) (.ref e_PaceError) = some true)
    (xb_PaceError : PySem.W.subIn K (.ref e_PaceError) (.type "BaseException") = some true) :
    ∃ fd : FuncData, (∀ (s : Shared) (v : Value), BindsTo s fd ⟨[v], []⟩ [("_law_script", v)]) ∧ ∀ base : Heap, K.In base → base.Ns mainGlobals mg → FnTop l.prog w K mg base (L2.CX l.prog w) 6 fa fd ["_law_script"] (spD K pr_law) := by
  have e := hfa.symm.trans (PySem.W.mg_of X G a_law)
  cases e
  have F_divisor := fun_mk (x := "divisor") (qual := "divisor") (st := s_divisor) l_divisor c_divisor k_divisor
  have b_divisor := F_divisor.binds (ps := ["one", "two"]) fun _ _ _ _ _ _ us hl => match us, hl with | [_, _], _ => rfl
  have g_divisor := PySem.W.mg_of X G a_divisor
  have F_is_root := fun_mk (x := "is_root") (qual := "is_root") (st := s_is_root) l_is_root c_is_root k_is_root
  have b_is_root := F_is_root.binds (ps := ["moment"]) fun _ _ _ _ _ _ us hl => match us, hl with | [_], _ => rfl
  have g_is_root := PySem.W.mg_of X G a_is_root
  have F_fractions_of := fun_mk (x := "fractions_of") (qual := "fractions_of") (st := s_fractions_of) l_fractions_of c_fractions_of k_fractions_of
  have b_fractions_of := F_fractions_of.binds (ps := ["numbers"]) fun _ _ _ _ _ _ us hl => match us, hl with | [_], _ => rfl
  have g_fractions_of := PySem.W.mg_of X G a_fractions_of
  have F__law_mixed := fun_mk (x := "_law_mixed") (qual := "_law_mixed") (st := s__law_mixed) l__law_mixed c__law_mixed k__law_mixed
  have b__law_mixed := F__law_mixed.binds (ps := ["_law_cell", "_law_k"]) fun _ _ _ _ _ _ us hl => match us, hl with | [_, _], _ => rfl
  have g__law_mixed := PySem.W.mg_of X G a__law_mixed
  have F__law_at := fun_mk (x := "_law_at") (qual := "_law_at") (st := s__law_at) l__law_at c__law_at k__law_at
  have b__law_at := F__law_at.binds (ps := ["_law_script", "_law_k"]) fun _ _ _ _ _ _ us hl => match us, hl with | [_, _], _ => rfl
  have g__law_at := PySem.W.mg_of X G a__law_at
  have F__law_low := fun_mk (x := "_law_low") (qual := "_law_low") (st := s__law_low) l__law_low c__law_low k__law_low
  have b__law_low := F__law_low.binds (ps := ["_law_top", "_law_bottom"]) fun _ _ _ _ _ _ us hl => match us, hl with | [_, _], _ => rfl
  have g__law_low := PySem.W.mg_of X G a__law_low
  have F__law_square_root := fun_mk (x := "_law_square_root") (qual := "_law_square_root") (st := s__law_square_root) l__law_square_root c__law_square_root k__law_square_root
  have b__law_square_root := F__law_square_root.binds (ps := ["_law_number_here"]) fun _ _ _ _ _ _ us hl => match us, hl with | [_], _ => rfl
  have g__law_square_root := PySem.W.mg_of X G a__law_square_root
  have F__law_common := fun_mk (x := "_law_common") (qual := "_law_common") (st := s__law_common) l__law_common c__law_common k__law_common
  have b__law_common := F__law_common.binds (ps := ["_law_one", "_law_other"]) fun _ _ _ _ _ _ us hl => match us, hl with | [_, _], _ => rfl
  have g__law_common := PySem.W.mg_of X G a__law_common
  have F__law_class := fun_mk (x := "_law_class") (qual := "_law_class") (st := s__law_class) l__law_class c__law_class k__law_class
  have b__law_class := F__law_class.binds (ps := ["_law_error"]) fun _ _ _ _ _ _ us hl => match us, hl with | [_], _ => rfl
  have g__law_class := PySem.W.mg_of X G a__law_class
  have F_fraction := fun_mk (x := "fraction") (qual := "fraction") (st := s_fraction) l_fraction c_fraction k_fraction
  have b_fraction := F_fraction.binds (ps := ["top", "bottom"]) fun _ _ _ _ _ _ us hl => match us, hl with | [_, _], _ => rfl
  have g_fraction := PySem.W.mg_of X G a_fraction
  have F_whole_curve := fun_mk (x := "whole_curve") (qual := "whole_curve") (st := s_whole_curve) l_whole_curve c_whole_curve k_whole_curve
  have b_whole_curve := F_whole_curve.binds (ps := ["curve"]) fun _ _ _ _ _ _ us hl => match us, hl with | [_], _ => rfl
  have g_whole_curve := PySem.W.mg_of X G a_whole_curve
  have F__law_purse := fun_mk (x := "_law_purse") (qual := "_law_purse") (st := s__law_purse) l__law_purse c__law_purse k__law_purse
  have b__law_purse := F__law_purse.binds (ps := ["_law_cell", "_law_k"]) fun _ _ _ _ _ _ us hl => match us, hl with | [_, _], _ => rfl
  have g__law_purse := PySem.W.mg_of X G a__law_purse
  have F__law_take := fun_mk (x := "_law_take") (qual := "_law_take") (st := s__law_take) l__law_take c__law_take k__law_take
  have b__law_take := F__law_take.binds (ps := ["_law_purse_here", "_law_many"]) fun _ _ _ _ _ _ us hl => match us, hl with | [_, _], _ => rfl
  have g__law_take := PySem.W.mg_of X G a__law_take
  have F__law_plus := fun_mk (x := "_law_plus") (qual := "_law_plus") (st := s__law_plus) l__law_plus c__law_plus k__law_plus
  have b__law_plus := F__law_plus.binds (ps := ["_law_one", "_law_other"]) fun _ _ _ _ _ _ us hl => match us, hl with | [_, _], _ => rfl
  have g__law_plus := PySem.W.mg_of X G a__law_plus
  have F__law_less := fun_mk (x := "_law_less") (qual := "_law_less") (st := s__law_less) l__law_less c__law_less k__law_less
  have b__law_less := F__law_less.binds (ps := ["_law_one", "_law_other"]) fun _ _ _ _ _ _ us hl => match us, hl with | [_, _], _ => rfl
  have g__law_less := PySem.W.mg_of X G a__law_less
  have F__law_by := fun_mk (x := "_law_by") (qual := "_law_by") (st := s__law_by) l__law_by c__law_by k__law_by
  have b__law_by := F__law_by.binds (ps := ["_law_one", "_law_other"]) fun _ _ _ _ _ _ us hl => match us, hl with | [_, _], _ => rfl
  have g__law_by := PySem.W.mg_of X G a__law_by
  have F__law_root := fun_mk (x := "_law_root") (qual := "_law_root") (st := s__law_root) l__law_root c__law_root k__law_root
  have b__law_root := F__law_root.binds (ps := ["_law_a", "_law_b", "_law_c", "_law_side"]) fun _ _ _ _ _ _ us hl => match us, hl with | [_, _, _, _], _ => rfl
  have g__law_root := PySem.W.mg_of X G a__law_root
  have F_plus := fun_mk (x := "plus") (qual := "plus") (st := s_plus) l_plus c_plus k_plus
  have b_plus := F_plus.binds (ps := ["one", "two"]) fun _ _ _ _ _ _ us hl => match us, hl with | [_, _], _ => rfl
  have g_plus := PySem.W.mg_of X G a_plus
  have F_minus := fun_mk (x := "minus") (qual := "minus") (st := s_minus) l_minus c_minus k_minus
  have b_minus := F_minus.binds (ps := ["one", "two"]) fun _ _ _ _ _ _ us hl => match us, hl with | [_, _], _ => rfl
  have g_minus := PySem.W.mg_of X G a_minus
  have F_times := fun_mk (x := "times") (qual := "times") (st := s_times) l_times c_times k_times
  have b_times := F_times.binds (ps := ["one", "two"]) fun _ _ _ _ _ _ us hl => match us, hl with | [_, _], _ => rfl
  have g_times := PySem.W.mg_of X G a_times
  have F_told_root := fun_mk (x := "told_root") (qual := "told_root") (st := s_told_root) l_told_root c_told_root k_told_root
  have b_told_root := F_told_root.binds (ps := ["curve", "side"]) fun _ _ _ _ _ _ us hl => match us, hl with | [_, _], _ => rfl
  have g_told_root := PySem.W.mg_of X G a_told_root
  have F__law_number := fun_mk (x := "_law_number") (qual := "_law_number") (st := s__law_number) l__law_number c__law_number k__law_number
  have b__law_number := F__law_number.binds (ps := ["_law_purse_here"]) fun _ _ _ _ _ _ us hl => match us, hl with | [_], _ => rfl
  have g__law_number := PySem.W.mg_of X G a__law_number
  have F__law_great := fun_mk (x := "_law_great") (qual := "_law_great") (st := s__law_great) l__law_great c__law_great k__law_great
  have b__law_great := F__law_great.binds (ps := ["_law_purse_here"]) fun _ _ _ _ _ _ us hl => match us, hl with | [_], _ => rfl
  have g__law_great := PySem.W.mg_of X G a__law_great
  have F__law_great_root := fun_mk (x := "_law_great_root") (qual := "_law_great_root") (st := s__law_great_root) l__law_great_root c__law_great_root k__law_great_root
  have b__law_great_root := F__law_great_root.binds (ps := ["_law_purse_here"]) fun _ _ _ _ _ _ us hl => match us, hl with | [_], _ => rfl
  have g__law_great_root := PySem.W.mg_of X G a__law_great_root
  have F__law_of_curve := fun_mk (x := "_law_of_curve") (qual := "_law_of_curve") (st := s__law_of_curve) l__law_of_curve c__law_of_curve k__law_of_curve
  have b__law_of_curve := F__law_of_curve.binds (ps := ["_law_curve", "_law_side"]) fun _ _ _ _ _ _ us hl => match us, hl with | [_, _], _ => rfl
  have g__law_of_curve := PySem.W.mg_of X G a__law_of_curve
  have F_worth_at := fun_mk (x := "worth_at") (qual := "worth_at") (st := s_worth_at) l_worth_at c_worth_at k_worth_at
  have b_worth_at := F_worth_at.binds (ps := ["curve", "x"]) fun _ _ _ _ _ _ us hl => match us, hl with | [_, _], _ => rfl
  have g_worth_at := PySem.W.mg_of X G a_worth_at
  have F_grown_by := fun_mk (x := "grown_by") (qual := "grown_by") (st := s_grown_by) l_grown_by c_grown_by k_grown_by
  have b_grown_by := F_grown_by.binds (ps := ["moment", "by"]) fun _ _ _ _ _ _ us hl => match us, hl with | [_, _], _ => rfl
  have g_grown_by := PySem.W.mg_of X G a_grown_by
  have F__law_moment := fun_mk (x := "_law_moment") (qual := "_law_moment") (st := s__law_moment) l__law_moment c__law_moment k__law_moment
  have b__law_moment := F__law_moment.binds (ps := ["_law_purse_here"]) fun _ _ _ _ _ _ us hl => match us, hl with | [_], _ => rfl
  have g__law_moment := PySem.W.mg_of X G a__law_moment
  have F__law_moved := fun_mk (x := "_law_moved") (qual := "_law_moved") (st := s__law_moved) l__law_moved c__law_moved k__law_moved
  have b__law_moved := F__law_moved.binds (ps := ["_law_moment_here", "_law_by_here"]) fun _ _ _ _ _ _ us hl => match us, hl with | [_, _], _ => rfl
  have g__law_moved := PySem.W.mg_of X G a__law_moved
  have F__law_grown := fun_mk (x := "_law_grown") (qual := "_law_grown") (st := s__law_grown) l__law_grown c__law_grown k__law_grown
  have b__law_grown := F__law_grown.binds (ps := ["_law_moment_here", "_law_by_here"]) fun _ _ _ _ _ _ us hl => match us, hl with | [_, _], _ => rfl
  have g__law_grown := PySem.W.mg_of X G a__law_grown
  have F_moved_by := fun_mk (x := "moved_by") (qual := "moved_by") (st := s_moved_by) l_moved_by c_moved_by k_moved_by
  have b_moved_by := F_moved_by.binds (ps := ["moment", "by"]) fun _ _ _ _ _ _ us hl => match us, hl with | [_, _], _ => rfl
  have g_moved_by := PySem.W.mg_of X G a_moved_by
  have F__law_any := fun_mk (x := "_law_any") (qual := "_law_any") (st := s__law_any) l__law_any c__law_any k__law_any
  have b__law_any := F__law_any.binds (ps := ["_law_purse_here"]) fun _ _ _ _ _ _ us hl => match us, hl with | [_], _ => rfl
  have g__law_any := PySem.W.mg_of X G a__law_any
  have F__law_told := fun_mk (x := "_law_told") (qual := "_law_told") (st := s__law_told) l__law_told c__law_told k__law_told
  have b__law_told := F__law_told.binds (ps := ["_law_moment_here", "_law_by_here"]) fun _ _ _ _ _ _ us hl => match us, hl with | [_, _], _ => rfl
  have g__law_told := PySem.W.mg_of X G a__law_told
  have F_law := fun_mk (x := "law") (qual := "law") (st := s_law) l_law c_law k_law
  have m_abs := PySem.W.mg_none_of X G z_abs
  have m_len := PySem.W.mg_none_of X G z_len
  have m_tuple := PySem.W.mg_none_of X G z_tuple
  have m_int := PySem.W.mg_none_of X G z_int
  have m_isinstance := PySem.W.mg_none_of X G z_isinstance
  have m_sum := PySem.W.mg_none_of X G z_sum
  have m_ValueError := PySem.W.mg_none_of X G z_ValueError
  have m_str := PySem.W.mg_none_of X G z_str
  have m_range := PySem.W.mg_none_of X G z_range
  have m_min := PySem.W.mg_none_of X G z_min
  have c_NOUGHT : CG K mg "NOUGHT" cv_NOUGHT := cg_two (PySem.W.mg_of X G ca_NOUGHT) cl_NOUGHT
  have n_NoFraction : mg "NoFraction" = some (.ref e_NoFraction) := PySem.W.mg_of X G xa_NoFraction
  have n_NoBetween : mg "NoBetween" = some (.ref e_NoBetween) := PySem.W.mg_of X G xa_NoBetween
  have n_NoCurve : mg "NoCurve" = some (.ref e_NoCurve) := PySem.W.mg_of X G xa_NoCurve
  have n_Taken : mg "Taken" = some (.ref e_Taken) := PySem.W.mg_of X G xa_Taken
  have n_NoName : mg "NoName" = some (.ref e_NoName) := PySem.W.mg_of X G xa_NoName
  have n_NoWord : mg "NoWord" = some (.ref e_NoWord) := PySem.W.mg_of X G xa_NoWord
  have n_Past : mg "Past" = some (.ref e_Past) := PySem.W.mg_of X G xa_Past
  have n_Missing : mg "Missing" = some (.ref e_Missing) := PySem.W.mg_of X G xa_Missing
  have n_Full : mg "Full" = some (.ref e_Full) := PySem.W.mg_of X G xa_Full
  have n_NoDistance : mg "NoDistance" = some (.ref e_NoDistance) := PySem.W.mg_of X G xa_NoDistance
  have n_NoMoment : mg "NoMoment" = some (.ref e_NoMoment) := PySem.W.mg_of X G xa_NoMoment
  have n_NoDeed : mg "NoDeed" = some (.ref e_NoDeed) := PySem.W.mg_of X G xa_NoDeed
  have n_NoLine : mg "NoLine" = some (.ref e_NoLine) := PySem.W.mg_of X G xa_NoLine
  have n_NoText : mg "NoText" = some (.ref e_NoText) := PySem.W.mg_of X G xa_NoText
  have n_PaceError : mg "PaceError" = some (.ref e_PaceError) := PySem.W.mg_of X G xa_PaceError
  have x_NoFraction : ExcK K mg "NoFraction" e_NoFraction := ⟨xq_NoFraction, n_NoFraction, xk_NoFraction, xb_NoFraction, xt_NoFraction⟩
  have ec_NoFraction : ExcC K e_NoFraction := ⟨echg_NoFraction, echk_NoFraction, xb_NoFraction, echd_NoFraction, echa_NoFraction, echn, echt, echm_NoFraction⟩
  have kt_NoFraction_NoBetween : PySem.W.kitOne K (.ref e_NoFraction) (.ref e_NoBetween) = some false := kit_mk xi_NoBetween xt_NoBetween su_NoFraction_NoBetween su_NoFraction_NoFraction
  have kt_NoFraction_NoCurve : PySem.W.kitOne K (.ref e_NoFraction) (.ref e_NoCurve) = some false := kit_mk xi_NoCurve xt_NoCurve su_NoFraction_NoCurve su_NoFraction_NoFraction
  have kt_NoFraction_NoFraction : PySem.W.kitOne K (.ref e_NoFraction) (.ref e_NoFraction) = some true := kit_mk xi_NoFraction xt_NoFraction su_NoFraction_NoFraction su_NoFraction_NoFraction
  have kt_NoFraction_Taken : PySem.W.kitOne K (.ref e_NoFraction) (.ref e_Taken) = some false := kit_mk xi_Taken xt_Taken su_NoFraction_Taken su_NoFraction_NoFraction
  have kt_NoFraction_NoName : PySem.W.kitOne K (.ref e_NoFraction) (.ref e_NoName) = some false := kit_mk xi_NoName xt_NoName su_NoFraction_NoName su_NoFraction_NoFraction
  have kt_NoFraction_NoWord : PySem.W.kitOne K (.ref e_NoFraction) (.ref e_NoWord) = some false := kit_mk xi_NoWord xt_NoWord su_NoFraction_NoWord su_NoFraction_NoFraction
  have kt_NoFraction_Past : PySem.W.kitOne K (.ref e_NoFraction) (.ref e_Past) = some false := kit_mk xi_Past xt_Past su_NoFraction_Past su_NoFraction_NoFraction
  have kt_NoFraction_Missing : PySem.W.kitOne K (.ref e_NoFraction) (.ref e_Missing) = some false := kit_mk xi_Missing xt_Missing su_NoFraction_Missing su_NoFraction_NoFraction
  have kt_NoFraction_Full : PySem.W.kitOne K (.ref e_NoFraction) (.ref e_Full) = some false := kit_mk xi_Full xt_Full su_NoFraction_Full su_NoFraction_NoFraction
  have kt_NoFraction_NoDistance : PySem.W.kitOne K (.ref e_NoFraction) (.ref e_NoDistance) = some false := kit_mk xi_NoDistance xt_NoDistance su_NoFraction_NoDistance su_NoFraction_NoFraction
  have kt_NoFraction_NoMoment : PySem.W.kitOne K (.ref e_NoFraction) (.ref e_NoMoment) = some false := kit_mk xi_NoMoment xt_NoMoment su_NoFraction_NoMoment su_NoFraction_NoFraction
  have kt_NoFraction_NoDeed : PySem.W.kitOne K (.ref e_NoFraction) (.ref e_NoDeed) = some false := kit_mk xi_NoDeed xt_NoDeed su_NoFraction_NoDeed su_NoFraction_NoFraction
  have kt_NoFraction_NoLine : PySem.W.kitOne K (.ref e_NoFraction) (.ref e_NoLine) = some false := kit_mk xi_NoLine xt_NoLine su_NoFraction_NoLine su_NoFraction_NoFraction
  have kt_NoFraction_NoText : PySem.W.kitOne K (.ref e_NoFraction) (.ref e_NoText) = some false := kit_mk xi_NoText xt_NoText su_NoFraction_NoText su_NoFraction_NoFraction
  have kt_NoFraction_ValueError : PySem.W.kitOne K (.ref e_NoFraction) (.type "ValueError") = some true := kit_mkT suT_NoFraction
  have kt_NoFraction_PaceError : PySem.W.kitOne K (.ref e_NoFraction) (.ref e_PaceError) = some true := kit_mk xi_PaceError xt_PaceError su_NoFraction_PaceError su_NoFraction_NoFraction
  have em_NoFraction_PaceError : PySem.W.exmOne K (.ref e_NoFraction) (.ref e_PaceError) = some true := exm_mk xb_PaceError xi_PaceError xt_PaceError su_NoFraction_PaceError
  refine ⟨PySem.W.fnOf "law" "law" (defArgs s_law) (defBody s_law) (defScope s_law) .none kV_law dc_law pm_law an_law cd_law ct_law, fun s v => .of_eq rfl, fun base _ _ => ?_⟩
  have d_divisor : Df l.prog w K mg base "divisor" ["one", "two"] 1 pr_divisor := Df.of F_divisor (ok_divisor (F := F_divisor) (m_abs := m_abs)) g_divisor b_divisor
  have d_is_root : Df l.prog w K mg base "is_root" ["moment"] 1 pr_is_root := Df.of F_is_root (ok_is_root (F := F_is_root) (m_len := m_len)) g_is_root b_is_root
  have d_fractions_of : Df l.prog w K mg base "fractions_of" ["numbers"] 1 pr_fractions_of := Df.of F_fractions_of (ok_fractions_of (F := F_fractions_of) (m_tuple := m_tuple)) g_fractions_of b_fractions_of
  have d__law_mixed : Df l.prog w K mg base "_law_mixed" ["_law_cell", "_law_k"] 1 pr__law_mixed := Df.of F__law_mixed (ok__law_mixed (F := F__law_mixed)) g__law_mixed b__law_mixed
  have d__law_at : Df l.prog w K mg base "_law_at" ["_law_script", "_law_k"] 1 pr__law_at := Df.of F__law_at (ok__law_at (F := F__law_at) (m_len := m_len)) g__law_at b__law_at
  have d__law_low : Df l.prog w K mg base "_law_low" ["_law_top", "_law_bottom"] 1 pr__law_low := Df.of F__law_low (ok__law_low (F := F__law_low) (m_abs := m_abs) (m_int := m_int)) g__law_low b__law_low
  have d__law_square_root : Df l.prog w K mg base "_law_square_root" ["_law_number_here"] 1 pr__law_square_root := Df.of F__law_square_root (ok__law_square_root (F := F__law_square_root)) g__law_square_root b__law_square_root
  have d__law_common : Df l.prog w K mg base "_law_common" ["_law_one", "_law_other"] 1 pr__law_common := Df.of F__law_common (ok__law_common (F := F__law_common) (m_abs := m_abs)) g__law_common b__law_common
  have d__law_class : Df l.prog w K mg base "_law_class" ["_law_error"] 1 (pr__law_class e_NoFraction) := Df.of F__law_class (ok__law_class (F := F__law_class) (ec_NoFraction := ec_NoFraction) (kt_NoFraction_NoBetween := kt_NoFraction_NoBetween) (kt_NoFraction_NoCurve := kt_NoFraction_NoCurve) (kt_NoFraction_NoFraction := kt_NoFraction_NoFraction) (kt_NoFraction_Taken := kt_NoFraction_Taken) (kt_NoFraction_NoName := kt_NoFraction_NoName) (kt_NoFraction_NoWord := kt_NoFraction_NoWord) (kt_NoFraction_Past := kt_NoFraction_Past) (kt_NoFraction_Missing := kt_NoFraction_Missing) (kt_NoFraction_Full := kt_NoFraction_Full) (kt_NoFraction_NoDistance := kt_NoFraction_NoDistance) (kt_NoFraction_NoMoment := kt_NoFraction_NoMoment) (kt_NoFraction_NoDeed := kt_NoFraction_NoDeed) (kt_NoFraction_NoLine := kt_NoFraction_NoLine) (kt_NoFraction_NoText := kt_NoFraction_NoText) (kt_NoFraction_ValueError := kt_NoFraction_ValueError) (kt_NoFraction_PaceError := kt_NoFraction_PaceError) (m_isinstance := m_isinstance) (m_int := m_int) (m_sum := m_sum) (m_ValueError := m_ValueError) (n_NoBetween := n_NoBetween) (n_NoCurve := n_NoCurve) (n_NoFraction := n_NoFraction) (n_Taken := n_Taken) (n_NoName := n_NoName) (n_NoWord := n_NoWord) (n_Past := n_Past) (n_Missing := n_Missing) (n_Full := n_Full) (n_NoDistance := n_NoDistance) (n_NoMoment := n_NoMoment) (n_NoDeed := n_NoDeed) (n_NoLine := n_NoLine) (n_NoText := n_NoText) (n_PaceError := n_PaceError)) g__law_class b__law_class
  have d_fraction : Df l.prog w K mg base "fraction" ["top", "bottom"] 2 pr_fraction := Df.of F_fraction (ok_fraction (F := F_fraction) (d_divisor := d_divisor)) g_fraction b_fraction
  have d_whole_curve : Df l.prog w K mg base "whole_curve" ["curve"] 2 pr_whole_curve := Df.of F_whole_curve (ok_whole_curve (F := F_whole_curve) (d_divisor := d_divisor) (m_tuple := m_tuple)) g_whole_curve b_whole_curve
  have d__law_purse : Df l.prog w K mg base "_law_purse" ["_law_cell", "_law_k"] 2 pr__law_purse := Df.of F__law_purse (ok__law_purse (F := F__law_purse) (d__law_mixed := d__law_mixed)) g__law_purse b__law_purse
  have d__law_take : Df l.prog w K mg base "_law_take" ["_law_purse_here", "_law_many"] 2 pr__law_take := Df.of F__law_take (ok__law_take (F := F__law_take) (d__law_mixed := d__law_mixed)) g__law_take b__law_take
  have d__law_plus : Df l.prog w K mg base "_law_plus" ["_law_one", "_law_other"] 2 pr__law_plus := Df.of F__law_plus (ok__law_plus (F := F__law_plus) (d__law_low := d__law_low)) g__law_plus b__law_plus
  have d__law_less : Df l.prog w K mg base "_law_less" ["_law_one", "_law_other"] 2 pr__law_less := Df.of F__law_less (ok__law_less (F := F__law_less) (d__law_low := d__law_low)) g__law_less b__law_less
  have d__law_by : Df l.prog w K mg base "_law_by" ["_law_one", "_law_other"] 2 pr__law_by := Df.of F__law_by (ok__law_by (F := F__law_by) (d__law_low := d__law_low)) g__law_by b__law_by
  have d__law_root : Df l.prog w K mg base "_law_root" ["_law_a", "_law_b", "_law_c", "_law_side"] 2 pr__law_root := Df.of F__law_root (ok__law_root (F := F__law_root) (d__law_common := d__law_common)) g__law_root b__law_root
  have d__law_root_w : Df l.prog w K mg base "_law_root" ["_law_a", "_law_b", "_law_c", "_law_side"] 2 pr__law_root_w := Df.of F__law_root (ok__law_root_w (F := F__law_root) (d__law_common := d__law_common)) g__law_root b__law_root
  have d_plus : Df l.prog w K mg base "plus" ["one", "two"] 3 pr_plus := Df.of F_plus (ok_plus (F := F_plus) (d_fraction := d_fraction)) g_plus b_plus
  have d_minus : Df l.prog w K mg base "minus" ["one", "two"] 3 pr_minus := Df.of F_minus (ok_minus (F := F_minus) (d_fraction := d_fraction)) g_minus b_minus
  have d_times : Df l.prog w K mg base "times" ["one", "two"] 3 pr_times := Df.of F_times (ok_times (F := F_times) (d_fraction := d_fraction)) g_times b_times
  have d_told_root : Df l.prog w K mg base "told_root" ["curve", "side"] 3 pr_told_root := Df.of F_told_root (ok_told_root (F := F_told_root) (d_whole_curve := d_whole_curve)) g_told_root b_told_root
  have d__law_number : Df l.prog w K mg base "_law_number" ["_law_purse_here"] 3 pr__law_number := Df.of F__law_number (ok__law_number (F := F__law_number) (d__law_take := d__law_take) (d__law_low := d__law_low)) g__law_number b__law_number
  have d__law_great : Df l.prog w K mg base "_law_great" ["_law_purse_here"] 3 pr__law_great := Df.of F__law_great (ok__law_great (F := F__law_great) (d__law_low := d__law_low) (d__law_take := d__law_take)) g__law_great b__law_great
  have d__law_great_root : Df l.prog w K mg base "_law_great_root" ["_law_purse_here"] 3 pr__law_great_root := Df.of F__law_great_root (ok__law_great_root (F := F__law_great_root) (d__law_take := d__law_take) (d__law_square_root := d__law_square_root) (d__law_root := d__law_root)) g__law_great_root b__law_great_root
  have d__law_of_curve : Df l.prog w K mg base "_law_of_curve" ["_law_curve", "_law_side"] 3 pr__law_of_curve := Df.of F__law_of_curve (ok__law_of_curve (F := F__law_of_curve) (d__law_root_w := d__law_root_w)) g__law_of_curve b__law_of_curve
  have d_worth_at : Df l.prog w K mg base "worth_at" ["curve", "x"] 4 pr_worth_at := Df.of F_worth_at (ok_worth_at (F := F_worth_at) (d_plus := d_plus) (d_times := d_times)) g_worth_at b_worth_at
  have d_grown_by_x : Df l.prog w K mg base "grown_by" ["moment", "by"] 4 (pr_grown_by_x e_NoFraction) := Df.of F_grown_by (ok_grown_by_x (F := F_grown_by) (d_is_root := d_is_root) (d_times := d_times) (d_fractions_of := d_fractions_of) (d_told_root := d_told_root) (c_NOUGHT := c_NOUGHT) (x_NoFraction := x_NoFraction)) g_grown_by b_grown_by
  have d_grown_by : Df l.prog w K mg base "grown_by" ["moment", "by"] 4 pr_grown_by := Df.of F_grown_by (ok_grown_by (F := F_grown_by) (d_is_root := d_is_root) (d_times := d_times) (d_fractions_of := d_fractions_of) (d_told_root := d_told_root) (c_NOUGHT := c_NOUGHT)) g_grown_by b_grown_by
  have d__law_moment : Df l.prog w K mg base "_law_moment" ["_law_purse_here"] 4 pr__law_moment := Df.of F__law_moment (ok__law_moment (F := F__law_moment) (d__law_take := d__law_take) (d__law_number := d__law_number) (d__law_square_root := d__law_square_root) (d__law_low := d__law_low) (d__law_root := d__law_root)) g__law_moment b__law_moment
  have d__law_moved : Df l.prog w K mg base "_law_moved" ["_law_moment_here", "_law_by_here"] 4 pr__law_moved := Df.of F__law_moved (ok__law_moved (F := F__law_moved) (d__law_plus := d__law_plus) (d__law_less := d__law_less) (d__law_by := d__law_by) (d__law_of_curve := d__law_of_curve) (m_len := m_len)) g__law_moved b__law_moved
  have d__law_grown : Df l.prog w K mg base "_law_grown" ["_law_moment_here", "_law_by_here"] 4 pr__law_grown := Df.of F__law_grown (ok__law_grown (F := F__law_grown) (d__law_by := d__law_by) (d__law_of_curve := d__law_of_curve) (m_len := m_len) (m_int := m_int)) g__law_grown b__law_grown
  have d_moved_by : Df l.prog w K mg base "moved_by" ["moment", "by"] 5 pr_moved_by := Df.of F_moved_by (ok_moved_by (F := F_moved_by) (d_is_root := d_is_root) (d_plus := d_plus) (d_fractions_of := d_fractions_of) (d_minus := d_minus) (d_times := d_times) (d_told_root := d_told_root) (d_worth_at := d_worth_at) (c_NOUGHT := c_NOUGHT)) g_moved_by b_moved_by
  have d__law_any : Df l.prog w K mg base "_law_any" ["_law_purse_here"] 5 pr__law_any := Df.of F__law_any (ok__law_any (F := F__law_any) (d__law_take := d__law_take) (d__law_great := d__law_great) (d__law_great_root := d__law_great_root) (d__law_moment := d__law_moment)) g__law_any b__law_any
  have d__law_told : Df l.prog w K mg base "_law_told" ["_law_moment_here", "_law_by_here"] 5 (pr__law_told e_NoFraction) := Df.of F__law_told (ok__law_told (F := F__law_told) (em_NoFraction_PaceError := em_NoFraction_PaceError) (d_grown_by_x := d_grown_by_x) (d__law_class := d__law_class) (n_PaceError := n_PaceError)) g__law_told b__law_told
  exact ok_law (F := F_law) (d__law_purse := d__law_purse) (d__law_at := d__law_at) (d__law_any := d__law_any) (d__law_number := d__law_number) (d_moved_by := d_moved_by) (d__law_moved := d__law_moved) (d__law_told := d__law_told) (d__law_grown := d__law_grown) (d_grown_by := d_grown_by) (d__law_low := d__law_low) (m_str := m_str) (m_range := m_range) (m_len := m_len) (m_min := m_min)
end EP
open PySem PySem.W PyProof.Rows
set_option maxHeartbeats 0 in
theorem PySem.Challenge.cw_everpace_k07_moments_moved_and_grown_holds : PySem.Challenge.rw_everpace_k07_moments_moved_and_grown.Holds := by
  w_on; o_law; k_head; (case hw => w_witness2)
  k_fill
  refine EP.walk_T (l := PySem.Challenge.rw_everpace_k07_moments_moved_and_grown) (n := 63) (k := 6) (x := "_law_script") (sp := EP.pr_law) rfl (by decide) rfl ⟨rfl, by decide, by decide⟩ (fun w h Y => PySem.W.kIn_of Y) ?F (fun K H a ns hl hS => EP.law_hsp (fun ns μ P PX hl h => EP.law_fin hl h) K H a ns hl hS)
  case F =>
    intro w mg fa h KX G hmg
    refine' EP.all_mk KX G hmg ?a_divisor ?l_divisor ?c_divisor ?k_divisor ?a_is_root ?l_is_root ?c_is_root ?k_is_root ?a_fractions_of ?l_fractions_of ?c_fractions_of ?k_fractions_of ?a__law_mixed ?l__law_mixed ?c__law_mixed ?k__law_mixed ?a__law_at ?l__law_at ?c__law_at ?k__law_at ?a__law_low ?l__law_low ?c__law_low ?k__law_low ?a__law_square_root ?l__law_square_root ?c__law_square_root ?k__law_square_root ?a__law_common ?l__law_common ?c__law_common ?k__law_common ?a__law_class ?l__law_class ?c__law_class ?k__law_class ?a_fraction ?l_fraction ?c_fraction ?k_fraction ?a_whole_curve ?l_whole_curve ?c_whole_curve ?k_whole_curve ?a__law_purse ?l__law_purse ?c__law_purse ?k__law_purse ?a__law_take ?l__law_take ?c__law_take ?k__law_take ?a__law_plus ?l__law_plus ?c__law_plus ?k__law_plus ?a__law_less ?l__law_less ?c__law_less ?k__law_less ?a__law_by ?l__law_by ?c__law_by ?k__law_by ?a__law_root ?l__law_root ?c__law_root ?k__law_root ?a_plus ?l_plus ?c_plus ?k_plus ?a_minus ?l_minus ?c_minus ?k_minus ?a_times ?l_times ?c_times ?k_times ?a_told_root ?l_told_root ?c_told_root ?k_told_root ?a__law_number ?l__law_number ?c__law_number ?k__law_number ?a__law_great ?l__law_great ?c__law_great ?k__law_great ?a__law_great_root ?l__law_great_root ?c__law_great_root ?k__law_great_root ?a__law_of_curve ?l__law_of_curve ?c__law_of_curve ?k__law_of_curve ?a_worth_at ?l_worth_at ?c_worth_at ?k_worth_at ?a_grown_by ?l_grown_by ?c_grown_by ?k_grown_by ?a__law_moment ?l__law_moment ?c__law_moment ?k__law_moment ?a__law_moved ?l__law_moved ?c__law_moved ?k__law_moved ?a__law_grown ?l__law_grown ?c__law_grown ?k__law_grown ?a_moved_by ?l_moved_by ?c_moved_by ?k_moved_by ?a__law_any ?l__law_any ?c__law_any ?k__law_any ?a__law_told ?l__law_told ?c__law_told ?k__law_told ?a_law ?l_law ?c_law ?k_law ?z_abs ?z_len ?z_tuple ?z_int ?z_isinstance ?z_sum ?z_ValueError ?z_str ?z_range ?z_min ?ca_NOUGHT ?cl_NOUGHT ?xa_NoFraction ?xa_NoBetween ?xa_NoCurve ?xa_Taken ?xa_NoName ?xa_NoWord ?xa_Past ?xa_Missing ?xa_Full ?xa_NoDistance ?xa_NoMoment ?xa_NoDeed ?xa_NoLine ?xa_NoText ?xa_PaceError ?xq_NoFraction ?xk_NoFraction ?xb_NoFraction ?xt_NoFraction ?echg_NoFraction ?echk_NoFraction ?echd_NoFraction ?echa_NoFraction ?echn ?echt ?echm_NoFraction ?xi_NoBetween ?xt_NoBetween ?su_NoFraction_NoBetween ?su_NoFraction_NoFraction ?xi_NoCurve ?xt_NoCurve ?su_NoFraction_NoCurve ?xi_NoFraction ?xi_Taken ?xt_Taken ?su_NoFraction_Taken ?xi_NoName ?xt_NoName ?su_NoFraction_NoName ?xi_NoWord ?xt_NoWord ?su_NoFraction_NoWord ?xi_Past ?xt_Past ?su_NoFraction_Past ?xi_Missing ?xt_Missing ?su_NoFraction_Missing ?xi_Full ?xt_Full ?su_NoFraction_Full ?xi_NoDistance ?xt_NoDistance ?su_NoFraction_NoDistance ?xi_NoMoment ?xt_NoMoment ?su_NoFraction_NoMoment ?xi_NoDeed ?xt_NoDeed ?su_NoFraction_NoDeed ?xi_NoLine ?xt_NoLine ?su_NoFraction_NoLine ?xi_NoText ?xt_NoText ?su_NoFraction_NoText ?suT_NoFraction ?xi_PaceError ?xt_PaceError ?su_NoFraction_PaceError ?xb_PaceError
    (case a_divisor => k_is)
    (case l_divisor => k_is)
    (case c_divisor => k_is)
    (case k_divisor => k_is)
    (case a_is_root => k_is)
    (case l_is_root => k_is)
    (case c_is_root => k_is)
    (case k_is_root => k_is)
    (case a_fractions_of => k_is)
    (case l_fractions_of => k_is)
    (case c_fractions_of => k_is)
    (case k_fractions_of => k_is)
    (case a__law_mixed => k_is)
    (case l__law_mixed => k_is)
    (case c__law_mixed => k_is)
    (case k__law_mixed => k_is)
    (case a__law_at => k_is)
    (case l__law_at => k_is)
    (case c__law_at => k_is)
    (case k__law_at => k_is)
    (case a__law_low => k_is)
    (case l__law_low => k_is)
    (case c__law_low => k_is)
    (case k__law_low => k_is)
    (case a__law_square_root => k_is)
    (case l__law_square_root => k_is)
    (case c__law_square_root => k_is)
    (case k__law_square_root => k_is)
    (case a__law_common => k_is)
    (case l__law_common => k_is)
    (case c__law_common => k_is)
    (case k__law_common => k_is)
    (case a__law_class => k_is)
    (case l__law_class => k_is)
    (case c__law_class => k_is)
    (case k__law_class => k_is)
    (case a_fraction => k_is)
    (case l_fraction => k_is)
    (case c_fraction => k_is)
    (case k_fraction => k_is)
    (case a_whole_curve => k_is)
    (case l_whole_curve => k_is)
    (case c_whole_curve => k_is)
    (case k_whole_curve => k_is)
    (case a__law_purse => k_is)
    (case l__law_purse => k_is)
    (case c__law_purse => k_is)
    (case k__law_purse => k_is)
    (case a__law_take => k_is)
    (case l__law_take => k_is)
    (case c__law_take => k_is)
    (case k__law_take => k_is)
    (case a__law_plus => k_is)
    (case l__law_plus => k_is)
    (case c__law_plus => k_is)
    (case k__law_plus => k_is)
    (case a__law_less => k_is)
    (case l__law_less => k_is)
    (case c__law_less => k_is)
    (case k__law_less => k_is)
    (case a__law_by => k_is)
    (case l__law_by => k_is)
    (case c__law_by => k_is)
    (case k__law_by => k_is)
    (case a__law_root => k_is)
    (case l__law_root => k_is)
    (case c__law_root => k_is)
    (case k__law_root => k_is)
    (case a_plus => k_is)
    (case l_plus => k_is)
    (case c_plus => k_is)
    (case k_plus => k_is)
    (case a_minus => k_is)
    (case l_minus => k_is)
    (case c_minus => k_is)
    (case k_minus => k_is)
    (case a_times => k_is)
    (case l_times => k_is)
    (case c_times => k_is)
    (case k_times => k_is)
    (case a_told_root => k_is)
    (case l_told_root => k_is)
    (case c_told_root => k_is)
    (case k_told_root => k_is)
    (case a__law_number => k_is)
    (case l__law_number => k_is)
    (case c__law_number => k_is)
    (case k__law_number => k_is)
    (case a__law_great => k_is)
    (case l__law_great => k_is)
    (case c__law_great => k_is)
    (case k__law_great => k_is)
    (case a__law_great_root => k_is)
    (case l__law_great_root => k_is)
    (case c__law_great_root => k_is)
    (case k__law_great_root => k_is)
    (case a__law_of_curve => k_is)
    (case l__law_of_curve => k_is)
    (case c__law_of_curve => k_is)
    (case k__law_of_curve => k_is)
    (case a_worth_at => k_is)
    (case l_worth_at => k_is)
    (case c_worth_at => k_is)
    (case k_worth_at => k_is)
    (case a_grown_by => k_is)
    (case l_grown_by => k_is)
    (case c_grown_by => k_is)
    (case k_grown_by => k_is)
    (case a__law_moment => k_is)
    (case l__law_moment => k_is)
    (case c__law_moment => k_is)
    (case k__law_moment => k_is)
    (case a__law_moved => k_is)
    (case l__law_moved => k_is)
    (case c__law_moved => k_is)
    (case k__law_moved => k_is)
    (case a__law_grown => k_is)
    (case l__law_grown => k_is)
    (case c__law_grown => k_is)
    (case k__law_grown => k_is)
    (case a_moved_by => k_is)
    (case l_moved_by => k_is)
    (case c_moved_by => k_is)
    (case k_moved_by => k_is)
    (case a__law_any => k_is)
    (case l__law_any => k_is)
    (case c__law_any => k_is)
    (case k__law_any => k_is)
    (case a__law_told => k_is)
    (case l__law_told => k_is)
    (case c__law_told => k_is)
    (case k__law_told => k_is)
    (case a_law => k_is)
    (case l_law => k_is)
    (case c_law => k_is)
    (case k_law => k_is)
    (case z_abs => k_is)
    (case z_len => k_is)
    (case z_tuple => k_is)
    (case z_int => k_is)
    (case z_isinstance => k_is)
    (case z_sum => k_is)
    (case z_ValueError => k_is)
    (case z_str => k_is)
    (case z_range => k_is)
    (case z_min => k_is)
    (case ca_NOUGHT => k_is)
    (case cl_NOUGHT => k_is)
    (case xa_NoFraction => k_is)
    (case xa_NoBetween => k_is)
    (case xa_NoCurve => k_is)
    (case xa_Taken => k_is)
    (case xa_NoName => k_is)
    (case xa_NoWord => k_is)
    (case xa_Past => k_is)
    (case xa_Missing => k_is)
    (case xa_Full => k_is)
    (case xa_NoDistance => k_is)
    (case xa_NoMoment => k_is)
    (case xa_NoDeed => k_is)
    (case xa_NoLine => k_is)
    (case xa_NoText => k_is)
    (case xa_PaceError => k_is)
    (case xq_NoFraction => k_exc)
    (case xk_NoFraction => k_is)
    (case xb_NoFraction => k_is)
    (case xt_NoFraction => k_is)
    (case echg_NoFraction => k_is)
    (case echk_NoFraction => k_is)
    (case echd_NoFraction => k_is)
    (case echa_NoFraction => k_is)
    (case echn => k_is)
    (case echt => k_is)
    (case echm_NoFraction => k_is)
    (case xi_NoBetween => k_is)
    (case xt_NoBetween => k_is)
    (case su_NoFraction_NoBetween => k_is)
    (case su_NoFraction_NoFraction => k_is)
    (case xi_NoCurve => k_is)
    (case xt_NoCurve => k_is)
    (case su_NoFraction_NoCurve => k_is)
    (case xi_NoFraction => k_is)
    (case xi_Taken => k_is)
    (case xt_Taken => k_is)
    (case su_NoFraction_Taken => k_is)
    (case xi_NoName => k_is)
    (case xt_NoName => k_is)
    (case su_NoFraction_NoName => k_is)
    (case xi_NoWord => k_is)
    (case xt_NoWord => k_is)
    (case su_NoFraction_NoWord => k_is)
    (case xi_Past => k_is)
    (case xt_Past => k_is)
    (case su_NoFraction_Past => k_is)
    (case xi_Missing => k_is)
    (case xt_Missing => k_is)
    (case su_NoFraction_Missing => k_is)
    (case xi_Full => k_is)
    (case xt_Full => k_is)
    (case su_NoFraction_Full => k_is)
    (case xi_NoDistance => k_is)
    (case xt_NoDistance => k_is)
    (case su_NoFraction_NoDistance => k_is)
    (case xi_NoMoment => k_is)
    (case xt_NoMoment => k_is)
    (case su_NoFraction_NoMoment => k_is)
    (case xi_NoDeed => k_is)
    (case xt_NoDeed => k_is)
    (case su_NoFraction_NoDeed => k_is)
    (case xi_NoLine => k_is)
    (case xt_NoLine => k_is)
    (case su_NoFraction_NoLine => k_is)
    (case xi_NoText => k_is)
    (case xt_NoText => k_is)
    (case su_NoFraction_NoText => k_is)
    (case suT_NoFraction => k_is)
    (case xi_PaceError => k_is)
    (case xt_PaceError => k_is)
    (case su_NoFraction_PaceError => k_is)
    (case xb_PaceError => k_is)
