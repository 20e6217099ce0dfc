import PyProof.Rows.All
import Wide.All
import Open.Line
import OpenK.KWalk
import OpenK.KCall
import KE.KUnpack
import Wide.FinOn
import PyProof.Rows.BitMore
import PyProof.SumWalkG
import PyProof.EqLayable
import PyProof.P3In
import PyProof.ReprRoads
import PyProof.ReprLen
import PySem.Challenge.RW_sa0341_01

set_option Elab.async false
set_option compiler.extract_closed false
section -- Fw
open PySem PySem.W PySem.Calls PyProof.Rows
namespace Mine

/-- data: what never changes -/
inductive D where
  | none
  | bool (b : Bool)
  | int (i : Int)
  | str (x : Str)
  | list (l : List D)
  | tup (l : List D)
  | val (v : Value)

/-- a value: data, or a list that may still change, by its number -/
inductive V where
  | d (x : D)
  | mu (k : Nat)

/-- where the mutable lists lie; which addresses hold data that may be read -/
structure Rho where
  ad : List Addr
  gd : Addr → Prop

mutual
noncomputable def RepD (h : Heap) (G : Addr → Prop) : D → Value → Prop
  | .none, v => v = .none
  | .bool b, v => v = .bool b
  | .int i, v => ∃ t, v = .int i t
  | .str x, v => ∃ t, v = .str x t
  | .list l, v => ∃ a vs n, v = .ref a ∧ IsL h a vs n ∧ G a ∧ RepDs h G l vs.toList
  | .tup l, v => ∃ a vs n, v = .ref a ∧ IsT h a vs n ∧ G a ∧ RepDs h G l vs.toList
  | .val x, v => v = x
noncomputable def RepDs (h : Heap) (G : Addr → Prop) : List D → List Value → Prop
  | [], vs => vs = []
  | x :: l, vs => ∃ v r, vs = v :: r ∧ RepD h G x v ∧ RepDs h G l r
end

noncomputable def Rep (h : Heap) (ρ : Rho) : V → Value → Prop
  | .d x, v => RepD h ρ.gd x v
  | .mu k, v => ∃ a, ρ.ad[k]? = some a ∧ v = .ref a

noncomputable def Reps (h : Heap) (ρ : Rho) : List V → List Value → Prop
  | [], vs => vs = []
  | x :: l, vs => ∃ v r, vs = v :: r ∧ Rep h ρ x v ∧ Reps h ρ l r

structure St where
  loc : List (Option V)
  mu : List (Option (List D))

noncomputable def Live (σ : St) (ρ : Rho) (a : Addr) : Prop := ∃ (k : Nat) (l : List D), σ.mu[k]? = some (some l) ∧ ρ.ad[k]? = some a

/-- what stays the same while a frame runs -/
structure Cx where
  prog : Program
  w : World
  A : Around
  env : Env
  vt : List (Str × Option Addr)
  g : Heap
  s : Shared
  mg : Str → Option Value
  mb : Str → Option Value

noncomputable def Cx.names (C : Cx) : List Str := C.vt.map (·.1)
noncomputable def Own (C : Cx) (b : Addr) : Prop := b = C.env.locals ∨ ∃ x, (x, some b) ∈ C.vt

structure CxOk (C : Cx) : Prop where
  kind : C.env.scope.kind = .function
  glo : C.env.globals = mainGlobals
  bui : C.env.builtins = builtinsNs
  han : C.A.handled = none
  gns : C.g.Ns mainGlobals C.mg
  bns : C.g.Ns builtinsNs C.mb
  lim : C.g.NoLimit
  loc : ∀ x, (x, none) ∈ C.vt → C.env.kindOf x = some .local
  cel : ∀ x c, (x, some c) ∈ C.vt → C.env.kindOf x = some .cell ∧ C.env.cells.lookup x = some c
  nd : C.names.Nodup
  cnd : ∀ x y c, (x, some c) ∈ C.vt → (y, some c) ∈ C.vt → x = y
  cl : ∀ x, (x, some C.env.locals) ∉ C.vt
  owng : ∀ b, Own C b → C.g.get? b = none

noncomputable def Holds (_ : Cx) (h : Heap) (m : Str → Option Value) (x : Str) (c : Option Addr) (v : Value) : Prop :=
  match c with
  | none => m x = some v
  | some c => h.IsCell c (some v)

structure RelM (C : Cx) (σ : St) (h : Heap) (ρ : Rho) (m : Str → Option Value) : Prop where
  len : ρ.ad.length = σ.mu.length
  inj : ∀ (i j : Nat) (a : Addr), ρ.ad[i]? = some a → ρ.ad[j]? = some a → i = j
  muts : ∀ (k : Nat) (l : List D), σ.mu[k]? = some (some l) → ∃ a vs n, ρ.ad[k]? = some a ∧ IsL h a vs n ∧ RepDs h ρ.gd l vs.toList
  locs : ∀ (i : Nat) (v : V), σ.loc[i]? = some (some v) → ∃ x c v', C.vt[i]? = some (x, c) ∧ Holds C h m x c v' ∧ Rep h ρ v v'
  ns : h.Ns C.env.locals m
  cells : ∀ x c, (x, some c) ∈ C.vt → ∃ v, h.IsCell c v
  glob : ∀ b o, C.g.get? b = some o → h.get? b = some o
  liveg : ∀ a, Live σ ρ a → C.g.get? a = none
  rin : ∀ (i : Nat) (a : Addr), ρ.ad[i]? = some a → ∃ vs n, IsL h a vs n
  livegd : ∀ a, Live σ ρ a → ¬ ρ.gd a
  adg : ∀ (i : Nat) (a : Addr), ρ.ad[i]? = some a → ρ.gd a ∨ Live σ ρ a
  gg : ∀ a o, C.g.get? a = some o → ρ.gd a
  gin : ∀ a, ρ.gd a → ∃ o, h.get? a = some o
noncomputable def Rel (C : Cx) (σ : St) (h : Heap) (ρ : Rho) : Prop := ∃ m, RelM C σ h ρ m

theorem own_obj {C : Cx} {σ : St} {h : Heap} {ρ : Rho} (R : Rel C σ h ρ) {b : Addr} (hb : Own C b) :
    ∃ o, h.get? b = some o ∧ ((∃ es ep, o.data = .dict es ep) ∨ (∃ v, o.data = .cell v)) := by
  obtain ⟨m, R⟩ := R
  rcases hb with rfl | ⟨x, hx⟩
  · obtain ⟨o, es, ep, ho, hd, _⟩ := R.ns
    exact ⟨o, ho, .inl ⟨es, ep, hd⟩⟩
  · obtain ⟨v, o, ho, hd⟩ := R.cells x b hx
    exact ⟨o, ho, .inr ⟨v, hd⟩⟩
theorem live_obj {C : Cx} {σ : St} {h : Heap} {ρ : Rho} (R : Rel C σ h ρ) {b : Addr} (hb : Live σ ρ b) : ∃ vs n, IsL h b vs n := by
  obtain ⟨m, R⟩ := R
  obtain ⟨k, l, hk, hr⟩ := hb
  obtain ⟨a, vs, n, ha, hl, _⟩ := R.muts k l hk
  rw [hr] at ha; cases ha
  exact ⟨vs, n, hl⟩
theorem not_own_L {C : Cx} {σ : St} {h : Heap} {ρ : Rho} (R : Rel C σ h ρ) {a : Addr} {o : Obj} {vs : Array Value} {n : Nat} (hl : h.get? a = some o) (hd : o.data = .seq vs n) : ¬ Own C a := fun hb => by
  obtain ⟨o', ho, h2⟩ := own_obj R hb
  rw [hl] at ho; cases ho
  rcases h2 with ⟨_, _, e⟩ | ⟨_, e⟩ <;> (rw [hd] at e; cases e)
theorem own_not_live {C : Cx} {σ : St} {h : Heap} {ρ : Rho} (R : Rel C σ h ρ) {a : Addr} (ho : Own C a) : ¬ Live σ ρ a := fun hb => by
  obtain ⟨_, _, e⟩ := live_obj R hb
  exact not_own_L R e rfl ho

/-- from one point of a frame's run to a later one -/
structure Step (C : Cx) (σ : St) (h : Heap) (ρ : Rho) (σ' : St) (h' : Heap) (ρ' : Rho) : Prop where
  rel : Rel C σ' h' ρ'
  ext : ∃ r, ρ'.ad = ρ.ad ++ r
  live : ∀ a, Live σ' ρ' a → Live σ ρ a ∨ h.get? a = none
  keep : ∀ b o, h.get? b = some o → ¬ Own C b → ¬ Live σ ρ b → h'.get? b = some o
  gd : ∀ a, ρ'.gd a → ρ.gd a ∨ Live σ ρ a ∨ h.get? a = none
  gm : ∀ a, ρ.gd a → ρ'.gd a

theorem Step.refl {C : Cx} {σ : St} {h : Heap} {ρ : Rho} (R : Rel C σ h ρ) : Step C σ h ρ σ h ρ :=
  ⟨R, ⟨[], by simp⟩, fun _ x => .inl x, fun _ _ e _ _ => e, fun _ x => .inl x, fun _ x => x⟩
theorem Step.trans {C : Cx} {σ σ1 σ2 : St} {h h1 h2 : Heap} {ρ ρ1 ρ2 : Rho} (s1 : Step C σ h ρ σ1 h1 ρ1) (s2 : Step C σ1 h1 ρ1 σ2 h2 ρ2) : Step C σ h ρ σ2 h2 ρ2 := by
  obtain ⟨r1, e1⟩ := s1.ext
  obtain ⟨r2, e2⟩ := s2.ext
  have back : ∀ a, h1.get? a = none → Live σ ρ a ∨ h.get? a = none := fun a h1n => by
    cases hg : h.get? a with
    | none => exact .inr rfl
    | some o =>
      refine .inl (Classical.byContradiction fun nl => ?_)
      have no : ¬ Own C a := fun ho => by
        obtain ⟨o', ho', _⟩ := own_obj s1.rel ho
        rw [h1n] at ho'; cases ho'
      rw [s1.keep a o hg no nl] at h1n; cases h1n
  refine ⟨s2.rel, ⟨r1 ++ r2, by rw [e2, e1]; simp⟩, fun a ha => ?_, fun b o e no nl => s2.keep b o (s1.keep b o e no nl) no fun hl => ?_, fun a ha => ?_, fun a ha => s2.gm a (s1.gm a ha)⟩
  · rcases s2.live a ha with h1l | h1n
    · exact s1.live a h1l
    · exact back a h1n
  · rcases s1.live b hl with q | q
    · exact nl q
    · rw [e] at q; cases q
  · rcases s2.gd a ha with q | q | q
    · exact s1.gd a q
    · exact .inr (s1.live a q)
    · exact .inr (back a q)

mutual
theorem RepD.mono {h h' : Heap} {G G' : Addr → Prop} (hL : ∀ a vs n, IsL h a vs n → G a → IsL h' a vs n ∧ G' a) (hT : ∀ a vs n, IsT h a vs n → G a → IsT h' a vs n ∧ G' a) :
    ∀ (x : D) (v : Value), RepD h G x v → RepD h' G' x v
  | .none, v, e => by simpa only [RepD] using e
  | .bool b, v, e => by simpa only [RepD] using e
  | .int i, v, e => by simpa only [RepD] using e
  | .str i, v, e => by simpa only [RepD] using e
  | .val i, v, e => by simpa only [RepD] using e
  | .list l, v, e => by
    simp only [RepD] at e ⊢
    obtain ⟨a, vs, n, hv, h1, h2, h3⟩ := e
    obtain ⟨q1, q2⟩ := hL a vs n h1 h2
    exact ⟨a, vs, n, hv, q1, q2, RepDs.mono hL hT l _ h3⟩
  | .tup l, v, e => by
    simp only [RepD] at e ⊢
    obtain ⟨a, vs, n, hv, h1, h2, h3⟩ := e
    obtain ⟨q1, q2⟩ := hT a vs n h1 h2
    exact ⟨a, vs, n, hv, q1, q2, RepDs.mono hL hT l _ h3⟩
theorem RepDs.mono {h h' : Heap} {G G' : Addr → Prop} (hL : ∀ a vs n, IsL h a vs n → G a → IsL h' a vs n ∧ G' a) (hT : ∀ a vs n, IsT h a vs n → G a → IsT h' a vs n ∧ G' a) :
    ∀ (l : List D) (vs : List Value), RepDs h G l vs → RepDs h' G' l vs
  | [], vs, e => by simpa only [RepDs] using e
  | x :: l, vs, e => by
    simp only [RepDs] at e ⊢
    obtain ⟨v, r, hv, h1, h2⟩ := e
    exact ⟨v, r, hv, RepD.mono hL hT x v h1, RepDs.mono hL hT l r h2⟩
end
theorem Rep.mono {h h' : Heap} {ρ ρ' : Rho} (hL : ∀ a vs n, IsL h a vs n → ρ.gd a → IsL h' a vs n ∧ ρ'.gd a) (hT : ∀ a vs n, IsT h a vs n → ρ.gd a → IsT h' a vs n ∧ ρ'.gd a) (hρ : ∃ r, ρ'.ad = ρ.ad ++ r)
    {x : V} {v : Value} (e : Rep h ρ x v) : Rep h' ρ' x v := by
  cases x with
  | d x => exact RepD.mono hL hT x v e
  | mu k =>
    obtain ⟨a, ha, hv⟩ := e
    obtain ⟨r, hr⟩ := hρ
    refine ⟨a, ?_, hv⟩
    have hk : k < ρ.ad.length := by
      rcases Nat.lt_or_ge k ρ.ad.length with q | q
      · exact q
      · rw [List.getElem?_eq_none q] at ha; cases ha
    rw [hr, List.getElem?_append_left hk]; exact ha
theorem Reps.mono {h h' : Heap} {ρ ρ' : Rho} (hL : ∀ a vs n, IsL h a vs n → ρ.gd a → IsL h' a vs n ∧ ρ'.gd a) (hT : ∀ a vs n, IsT h a vs n → ρ.gd a → IsT h' a vs n ∧ ρ'.gd a) (hρ : ∃ r, ρ'.ad = ρ.ad ++ r) :
    ∀ {l : List V} {vs : List Value}, Reps h ρ l vs → Reps h' ρ' l vs
  | [], _, e => e
  | _ :: _, _, ⟨v, r, hv, h1, h2⟩ => ⟨v, r, hv, h1.mono hL hT hρ, Reps.mono hL hT hρ h2⟩

section
variable {C : Cx} {σ σ' : St} {h h' : Heap} {ρ ρ' : Rho}
theorem gd_not_live (R : Rel C σ h ρ) {a : Addr} (g : ρ.gd a) : ¬ Live σ ρ a := fun q => by
  obtain ⟨m, RM⟩ := R
  exact RM.livegd a q g
theorem Step.hL (R : Rel C σ h ρ) (S : Step C σ h ρ σ' h' ρ') : ∀ a vs n, IsL h a vs n → ρ.gd a → IsL h' a vs n ∧ ρ'.gd a := fun a _ _ hl g =>
  ⟨S.keep a _ hl (not_own_L R hl rfl) (gd_not_live R g), S.gm a g⟩
theorem Step.hT (R : Rel C σ h ρ) (S : Step C σ h ρ σ' h' ρ') : ∀ a vs n, IsT h a vs n → ρ.gd a → IsT h' a vs n ∧ ρ'.gd a := fun a _ _ hl g =>
  ⟨S.keep a _ hl (not_own_L R hl rfl) (gd_not_live R g), S.gm a g⟩
theorem Step.repD (R : Rel C σ h ρ) (S : Step C σ h ρ σ' h' ρ') {x : D} {v : Value} (e : RepD h ρ.gd x v) : RepD h' ρ'.gd x v := RepD.mono (S.hL R) (S.hT R) x v e
theorem Step.repDs (R : Rel C σ h ρ) (S : Step C σ h ρ σ' h' ρ') {x : List D} {v : List Value} (e : RepDs h ρ.gd x v) : RepDs h' ρ'.gd x v := RepDs.mono (S.hL R) (S.hT R) x v e
theorem Step.rep (R : Rel C σ h ρ) (S : Step C σ h ρ σ' h' ρ') {x : V} {v : Value} (e : Rep h ρ x v) : Rep h' ρ' x v := e.mono (S.hL R) (S.hT R) S.ext
theorem Step.reps (R : Rel C σ h ρ) (S : Step C σ h ρ σ' h' ρ') {x : List V} {v : List Value} (e : Reps h ρ x v) : Reps h' ρ' x v := Reps.mono (S.hL R) (S.hT R) S.ext e

/-- the heap grew, or what changed is hidden; more is good -/
theorem Rel.move {ρ' : Rho} (R : Rel C σ h ρ) (had : ρ'.ad = ρ.ad) (hg : ∀ a, ρ.gd a → ρ'.gd a) (hg2 : ∀ a, ρ'.gd a → ρ.gd a ∨ (h.get? a = none ∧ ∃ o, h'.get? a = some o)) (hk : ∀ b o, h.get? b = some o → (ρ.gd b ∨ Live σ ρ b ∨ Own C b ∨ C.g.get? b = some o) → h'.get? b = some o) : Rel C σ h' ρ' := by
  obtain ⟨m, R⟩ := R
  have hL : ∀ a vs n, IsL h a vs n → ρ.gd a → IsL h' a vs n ∧ ρ'.gd a := fun a vs n x y => ⟨hk _ _ x (.inl y), hg a y⟩
  have hT : ∀ a vs n, IsT h a vs n → ρ.gd a → IsT h' a vs n ∧ ρ'.gd a := fun a vs n x y => ⟨hk _ _ x (.inl y), hg a y⟩
  have hlive : ∀ a, Live σ ρ' a ↔ Live σ ρ a := fun a => by unfold Live; rw [had]
  refine ⟨m, by rw [had]; exact R.len, by rw [had]; exact R.inj, fun k l e => ?_, fun i v e => ?_, R.ns.at' fun o e => hk _ o e (.inr (.inr (.inl (.inl rfl)))), fun x c e => ?_, fun b o e => hk _ _ (R.glob b o e) (.inr (.inr (.inr e))), fun a ha => R.liveg a ((hlive a).mp ha), fun i a e => ?_,
    fun a ha g => ?_, fun i a e => ?_, fun a o e => hg a (R.gg a o e), fun a g => ?_⟩
  · obtain ⟨a, vs, n, h1, h2, h3⟩ := R.muts k l e
    exact ⟨a, vs, n, by rw [had]; exact h1, hk _ _ h2 (.inr (.inl ⟨k, l, e, h1⟩)), RepDs.mono hL hT _ _ h3⟩
  · obtain ⟨x, c, v', h1, h2, h3⟩ := R.locs i v e
    refine ⟨x, c, v', h1, ?_, h3.mono hL hT ⟨[], by simp [had]⟩⟩
    cases c with
    | none => exact h2
    | some c =>
      obtain ⟨o, ho, hd⟩ := h2
      exact ⟨o, hk c o ho (.inr (.inr (.inl (.inr ⟨x, List.mem_of_getElem? h1⟩)))), hd⟩
  · obtain ⟨v, o, ho, hd⟩ := R.cells x c e
    exact ⟨v, o, hk c o ho (.inr (.inr (.inl (.inr ⟨x, e⟩)))), hd⟩
  · rw [had] at e
    obtain ⟨vs, n, q⟩ := R.rin i a e
    rcases R.adg i a e with z | z
    · exact ⟨vs, n, hk _ _ q (.inl z)⟩
    · exact ⟨vs, n, hk _ _ q (.inr (.inl z))⟩
  · have ha := (hlive a).mp ha
    rcases hg2 a g with q | q
    · exact R.livegd a ha q
    · obtain ⟨k, l, hk1, hk2⟩ := ha
      obtain ⟨vs, n, z⟩ := R.rin k a hk2
      cases q.1.symm.trans z
  · rw [had] at e
    rcases R.adg i a e with z | z
    · exact .inl (hg a z)
    · exact .inr ((hlive a).mpr z)
  · rcases hg2 a g with q | q
    · obtain ⟨o, ho⟩ := R.gin a q
      exact ⟨o, hk a o ho (.inl q)⟩
    · exact q.2
theorem Rel.grow (R : Rel C σ h ρ) (hk : ∀ b o, h.get? b = some o → h'.get? b = some o) : Rel C σ h' ρ := R.move rfl (fun _ x => x) (fun _ x => .inl x) fun b o e _ => hk b o e
theorem Step.grow (R : Rel C σ h ρ) (hk : ∀ b o, h.get? b = some o → h'.get? b = some o) : Step C σ h ρ σ h' ρ :=
  ⟨R.grow hk, ⟨[], by simp⟩, fun _ x => .inl x, fun b o e _ _ => hk b o e, fun _ x => .inl x, fun _ x => x⟩
/-- the heap grew, and what is new may be read -/
noncomputable def Rho.more (ρ : Rho) (h h' : Heap) : Rho := { ρ with gd := fun a => ρ.gd a ∨ (h.get? a = none ∧ ∃ o, h'.get? a = some o) }
theorem Step.growG (R : Rel C σ h ρ) (hk : ∀ b o, h.get? b = some o → h'.get? b = some o) : Step C σ h ρ σ h' (ρ.more h h') :=
  ⟨R.move rfl (fun _ x => .inl x) (fun _ x => x) fun b o e _ => hk b o e, ⟨[], by simp [Rho.more]⟩, fun _ x => .inl x, fun b o e _ _ => hk b o e, fun _ x => x.elim .inl fun q => .inr (.inr q.1), fun _ x => .inl x⟩
end

/-- the shared state of a frame with a heap and a count of marks -/
noncomputable abbrev Cx.at (C : Cx) (h : Heap) (tk : Nat) : Shared := { C.s with heap := h, toks := tk }

inductive Post {α β : Type} (C : Cx) (σ : St) (h : Heap) (ρ : Rho) (rep : Heap → Rho → β → α → Prop) (K : β → St → Prop) (a : α) (s' : Shared) : Prop where
  | mk (h' : Heap) (tk' : Nat) (ρ' : Rho) (b : β) (σ' : St) (e : s' = C.at h' tk') (k : K b σ') (S : Step C σ h ρ σ' h' ρ') (r : rep h' ρ' b a)
inductive Did (C : Cx) (σ : St) (h : Heap) (ρ : Rho) (σ' : St) (s' : Shared) : Prop where
  | mk (h' : Heap) (tk' : Nat) (e : s' = C.at h' tk') (S : Step C σ h ρ σ' h' ρ)
theorem Did.elim {α : Type} {C : Cx} {σ σ' : St} {h : Heap} {ρ : Rho} {Q : α → Shared → Prop} (f : ∀ a h' tk', Step C σ h ρ σ' h' ρ → Q a (C.at h' tk')) : ∀ a s', Did C σ h ρ σ' s' → Q a s' := fun a _ ⟨h', tk', e, S⟩ => e ▸ f a h' tk' S

theorem Post.elim {α β : Type} {C : Cx} {σ : St} {h : Heap} {ρ : Rho} {rep : Heap → Rho → β → α → Prop} {K : β → St → Prop} {Q : α → Shared → Prop} (f : ∀ a h' tk' ρ' b σ', K b σ' → Step C σ h ρ σ' h' ρ' → rep h' ρ' b a → Q a (C.at h' tk')) :
    ∀ a s', Post C σ h ρ rep K a s' → Q a s' := fun a _ ⟨h', tk', ρ', b, σ', e, k, S, r⟩ => e ▸ f a h' tk' ρ' b σ' k S r
noncomputable def WP {α β : Type} (C : Cx) (t : Sem α) (rep : Heap → Rho → β → α → Prop) (σ : St) (K : β → St → Prop) : Prop :=
  ∀ h tk ρ (E : Value → Shared → Prop), Rel C σ h ρ → wpAny (model C.prog C.w) C.A t (Post C σ h ρ rep K) E (C.at h tk)

noncomputable def repB (_ : Heap) (_ : Rho) (b b' : Bool) : Prop := b' = b
noncomputable def repU (_ : Heap) (_ : Rho) (_ _ : Unit) : Prop := True
inductive Fl where
  | next | brk | cont
  | ret (v : V)
noncomputable def repF (h : Heap) (ρ : Rho) : Fl → Flow → Prop
  | .next, f => f = .next
  | .brk, f => f = .brk
  | .cont, f => f = .cont
  | .ret v, f => ∃ v' : Value, f = .ret v' ∧ Rep h ρ v v'

noncomputable def Ev (C : Cx) (e : Expr) (σ : St) (K : V → St → Prop) : Prop := WP C (eval e C.env) Rep σ K
noncomputable def EvB (C : Cx) (e : Expr) (σ : St) (K : Bool → St → Prop) : Prop := WP C (isTrue e C.env (eval e C.env)) repB σ K
noncomputable def EvL (C : Cx) (es : List (Bool × Sem Value)) (σ : St) (K : List V → St → Prop) : Prop := WP C (spliced es) Reps σ K
noncomputable def Ex (C : Cx) (st : Stmt) (σ : St) (K : Fl → St → Prop) : Prop := WP C (exec st C.env) repF σ K
noncomputable def Exs (C : Cx) (st : List Stmt) (σ : St) (K : Fl → St → Prop) : Prop := WP C (execs st C.env) repF σ K

section
variable {α β : Type} {C : Cx} {σ : St} {rep : Heap → Rho → β → α → Prop}
theorem WP.mono {t : Sem α} {K K' : β → St → Prop} (h : WP C t rep σ K) (hK : ∀ b σ', K b σ' → K' b σ') : WP C t rep σ K' :=
  fun hp tk ρ E R => wpAny_mono (h hp tk ρ E R) (fun _ _ ⟨h', tk', ρ', b, σ', e, k, S, r⟩ => ⟨h', tk', ρ', b, σ', e, hK b σ' k, S, r⟩) fun _ _ x => x

theorem Post.up {σ1 : St} {h h1 : Heap} {ρ ρ1 : Rho} {K : β → St → Prop} {a : α} {s' : Shared} (S : Step C σ h ρ σ1 h1 ρ1) (p : Post C σ1 h1 ρ1 rep K a s') : Post C σ h ρ rep K a s' := by
  obtain ⟨h2, tk2, ρ2, b, σ2, e, k, S2, r⟩ := p
  exact ⟨h2, tk2, ρ2, b, σ2, e, k, S.trans S2, r⟩
theorem Post.ret {h : Heap} {tk : Nat} {ρ : Rho} {K : β → St → Prop} {a : α} {b : β} (R : Rel C σ h ρ) (k : K b σ) (r : rep h ρ b a) : Post C σ h ρ rep K a (C.at h tk) :=
  ⟨h, tk, ρ, b, σ, rfl, k, .refl R, r⟩
/-- the heap grew -/
theorem Post.grown {h h' : Heap} {tk : Nat} {ρ : Rho} {K : β → St → Prop} {a : α} {b : β} (R : Rel C σ h ρ) (hk : ∀ b o, h.get? b = some o → h'.get? b = some o) (k : K b σ) (r : rep h' ρ b a) : Post C σ h ρ rep K a (C.at h' tk) :=
  ⟨h', tk, ρ, b, σ, rfl, k, .grow R hk, r⟩
end
end Mine
end

section -- Fw2
open PySem PySem.W PySem.Calls PyProof.Rows
namespace Mine

section
variable {C : Cx} {σ : St} {K : V → St → Prop}

theorem Ev.cint {i : Int} {k : Nat} {pos : Pos} (h : K (.d (.int i)) σ) : Ev C (.Constant (.int i) k pos) σ K :=
  fun _ _ _ _ R => wpAny_Constant_int (Post.ret R h ⟨_, rfl⟩)
theorem Ev.cbool {b : Bool} {k : Nat} {pos : Pos} (h : K (.d (.bool b)) σ) : Ev C (.Constant (.bool b) k pos) σ K :=
  fun _ _ _ _ R => wpAny_Constant_bool (Post.ret R h rfl)
theorem Ev.cnone {k : Nat} {pos : Pos} (h : K (.d .none) σ) : Ev C (.Constant .none k pos) σ K :=
  fun _ _ _ _ R => wpAny_Constant_none (Post.ret R h rfl)

theorem vt_at {ns : List Str} {x x' : Str} {i : Nat} {c : Option Addr} (hn : C.names = ns) (hx : ns[i]? = some x) (hv : C.vt[i]? = some (x', c)) : x' = x := by
  have : C.names[i]? = some x' := by unfold Cx.names; rw [List.getElem?_map, hv]; rfl
  rw [hn, hx] at this
  exact (Option.some.inj this).symm

theorem Ev.loc {ns : List Str} {x : Str} {pos : Pos} {v : V} (i : Nat) (ok : CxOk C) (hn : C.names = ns) (hx : ns[i]? = some x) (hv : σ.loc[i]? = some (some v)) (h : K v σ)
    (hd : (x == ("__debug__" : Str)) = false := by decide) : Ev C (.Name x pos) σ K := fun hp tk ρ E R => by
  obtain ⟨m, RM⟩ := id R
  obtain ⟨x', c, v', h1, h2, h3⟩ := RM.locs i v hv
  obtain rfl := vt_at hn hx h1
  have hm := List.mem_of_getElem? h1
  cases c with
  | none => exact wpAny_Name (wpAny_loadName_local ok.kind (ok.loc _ hm) RM.ns h2 (Post.ret R h h3)) hd
  | some c => exact wpAny_Name (wpAny_loadName_cell ok.kind (ok.cel _ _ hm).1 (ok.cel _ _ hm).2 h2 (Post.ret R h h3)) hd

/-- the mutable list k is from now on data -/
noncomputable def St.frz (σ : St) (k : Nat) : St := { σ with mu := σ.mu.set k none }
noncomputable def Rho.frz (ρ : Rho) (k : Nat) : Rho := { ρ with gd := fun a => ρ.gd a ∨ ρ.ad[k]? = some a }
theorem frz_at {k j : Nat} {l : List D} (e : (σ.frz k).mu[j]? = some (some l)) : j ≠ k ∧ σ.mu[j]? = some (some l) := by
  unfold St.frz at e
  dsimp only at e
  by_cases q : j = k
  · subst q
    rw [List.getElem?_set, if_pos rfl] at e
    split at e <;> cases e
  · rw [List.getElem?_set_ne (Ne.symm q)] at e
    exact ⟨q, e⟩
theorem frz_sub {k : Nat} {ρ : Rho} {a : Addr} (hl : Live (σ.frz k) (ρ.frz k) a) : Live σ ρ a := by
  obtain ⟨j, l, hj, hr⟩ := hl
  exact ⟨j, l, (frz_at hj).2, hr⟩
theorem Rel.frz {h : Heap} {ρ : Rho} {k : Nat} (R : Rel C σ h ρ) : Rel C (σ.frz k) h (ρ.frz k) := by
  obtain ⟨m, R⟩ := R
  have hL : ∀ a vs n, IsL h a vs n → ρ.gd a → IsL h a vs n ∧ (ρ.frz k).gd a := fun a vs n x y => ⟨x, .inl y⟩
  have hT : ∀ a vs n, IsT h a vs n → ρ.gd a → IsT h a vs n ∧ (ρ.frz k).gd a := fun a vs n x y => ⟨x, .inl y⟩
  refine ⟨m, by show ρ.ad.length = _; rw [R.len]; simp [St.frz], R.inj, fun j l e => ?_, fun i v e => ?_, R.ns, R.cells, R.glob, fun a ha => R.liveg a (frz_sub ha), R.rin, fun a ha g => ?_, fun i a e => ?_, fun a o e => .inl (R.gg a o e), fun a g => ?_⟩
  · obtain ⟨a, vs, n, h1, h2, h3⟩ := R.muts j l (frz_at e).2
    exact ⟨a, vs, n, h1, h2, RepDs.mono hL hT _ _ h3⟩
  · obtain ⟨x, c, v', h1, h2, h3⟩ := R.locs i v e
    exact ⟨x, c, v', h1, h2, h3.mono hL hT ⟨[], by simp [Rho.frz]⟩⟩
  · rcases g with g | g
    · exact R.livegd a (frz_sub ha) g
    · obtain ⟨j, l, hj, hr⟩ := ha
      exact (frz_at hj).1 (R.inj j k a hr g)
  · rcases R.adg i a e with q | ⟨j, l, hj, hr⟩
    · exact .inl (.inl q)
    · by_cases z : j = k
      · subst z; exact .inl (.inr hr)
      · refine .inr ⟨j, l, ?_, hr⟩
        unfold St.frz
        dsimp only
        rw [List.getElem?_set_ne (Ne.symm z)]; exact hj
  · rcases g with g | g
    · exact R.gin a g
    · obtain ⟨_, _, q⟩ := R.rin k a g
      exact ⟨_, q⟩
theorem Step.frz {h : Heap} {ρ : Rho} {k : Nat} (R : Rel C σ h ρ) : Step C σ h ρ (σ.frz k) h (ρ.frz k) :=
  ⟨R.frz, ⟨[], by simp [Rho.frz]⟩, fun _ x => .inl (frz_sub x), fun _ _ e _ _ => e, fun a x => by
    rcases x with x | x
    · exact .inl x
    · obtain ⟨m, RM⟩ := R
      exact (RM.adg k a x).elim .inl fun q => .inr (.inl q), fun _ x => .inl x⟩

theorem Ev.frz {ns : List Str} {x : Str} {pos : Pos} {l : List D} {k : Nat} (i : Nat) (ok : CxOk C) (hn : C.names = ns) (hx : ns[i]? = some x) (hv : σ.loc[i]? = some (some (.mu k))) (hk : σ.mu[k]? = some (some l))
    (h : K (.d (.list l)) (σ.frz k)) (hd : (x == ("__debug__" : Str)) = false := by decide) : Ev C (.Name x pos) σ K := fun hp tk ρ E R => by
  refine wpAny_mono (Ev.loc (K := fun v σ' => v = .mu k ∧ σ' = σ) i ok hn hx hv ⟨rfl, rfl⟩ hd hp tk ρ E R) (fun v' s' ⟨h', tk', ρ', b, σ', e, k1, S, r⟩ => ?_) fun _ _ x => x
  obtain ⟨rfl, rfl⟩ := k1
  subst e
  obtain ⟨a, ha, hv'⟩ := r
  obtain ⟨m, RM⟩ := S.rel
  obtain ⟨a', vs, n, h1, h2, h3⟩ := RM.muts k l hk
  rw [ha] at h1; cases h1
  subst hv'
  refine ⟨h', tk', _, _, _, rfl, h, S.trans (Step.frz S.rel), ?_⟩
  simp only [Rep, RepD]
  exact ⟨a, vs, n, rfl, h2, .inr ha, RepDs.mono (fun a vs n x y => ⟨x, .inl y⟩) (fun a vs n x y => ⟨x, .inl y⟩) _ _ h3⟩

theorem Ev.glo {x : Str} {pos : Pos} {v : Value} (ok : CxOk C) (hk : C.env.kindOf x = some .globalImplicit) (hv : C.mg x = some v) (h : K (.d (.val v)) σ)
    (hd : (x == ("__debug__" : Str)) = false := by decide) : Ev C (.Name x pos) σ K := fun hp tk ρ E R => by
  obtain ⟨m, RM⟩ := id R
  exact Name_function_global ok.kind hk (loadGlobal_global (by rw [ok.glo]; exact ok.gns.keeps RM.glob) hv (Post.ret R h rfl)) hd
/-- a table of the module's own -/
theorem Ev.gloD {x : Str} {pos : Pos} {v : Value} {d : D} (ok : CxOk C) (hk : C.env.kindOf x = some .globalImplicit) (hv : C.mg x = some v) (hr : RepD C.g (fun a => ∃ o, C.g.get? a = some o) d v) (h : K (.d d) σ)
    (hd : (x == ("__debug__" : Str)) = false := by decide) : Ev C (.Name x pos) σ K := fun hp tk ρ E R => by
  obtain ⟨m, RM⟩ := id R
  refine Name_function_global ok.kind hk (loadGlobal_global (by rw [ok.glo]; exact ok.gns.keeps RM.glob) hv (Post.ret R h ?_)) hd
  exact RepD.mono (fun a vs n hl ⟨o, q⟩ => ⟨RM.glob _ _ hl, RM.gg a o q⟩) (fun a vs n hl ⟨o, q⟩ => ⟨RM.glob _ _ hl, RM.gg a o q⟩) _ _ hr
theorem Ev.bui {x : Str} {pos : Pos} {v : Value} (ok : CxOk C) (hk : C.env.kindOf x = some .globalImplicit) (hm : C.mg x = none) (hv : C.mb x = some v) (h : K (.d (.val v)) σ)
    (hd : (x == ("__debug__" : Str)) = false := by decide) : Ev C (.Name x pos) σ K := fun hp tk ρ E R => by
  obtain ⟨m, RM⟩ := id R
  exact Name_function_global ok.kind hk (loadGlobal_builtin (by rw [ok.glo]; exact ok.gns.keeps RM.glob) hm (by rw [ok.bui]; exact ok.bns.keeps RM.glob) hv (Post.ret R h rfl)) hd

/-- an operation on two values at hand -/
noncomputable def BinK (C : Cx) (op : Operator) (a b : V) (σ : St) (K : V → St → Prop) : Prop :=
  ∀ h tk ρ E a' b', Rel C σ h ρ → Rep h ρ a a' → Rep h ρ b b' → wpAny (model C.prog C.w) C.A (binaryOp op a' b') (Post C σ h ρ Rep K) E (C.at h tk)
noncomputable def AugK (C : Cx) (op : Operator) (a b : V) (σ : St) (K : V → St → Prop) : Prop :=
  ∀ h tk ρ E a' b', Rel C σ h ρ → Rep h ρ a a' → Rep h ρ b b' → wpAny (model C.prog C.w) C.A (inplaceOp op a' b') (Post C σ h ρ Rep K) E (C.at h tk)
noncomputable def CmpK (C : Cx) (op : CmpOp) (a b : V) (σ : St) (K : V → St → Prop) : Prop :=
  ∀ h tk ρ E a' b', Rel C σ h ρ → Rep h ρ a a' → Rep h ρ b b' → wpAny (model C.prog C.w) C.A (compareOp op a' b') (Post C σ h ρ Rep K) E (C.at h tk)
noncomputable def UnK (C : Cx) (op : UnaryOp) (a : V) (σ : St) (K : V → St → Prop) : Prop :=
  ∀ h tk ρ E a', Rel C σ h ρ → Rep h ρ a a' → wpAny (model C.prog C.w) C.A (unaryOp op a') (Post C σ h ρ Rep K) E (C.at h tk)
noncomputable def TruK (C : Cx) (a : V) (σ : St) (K : Bool → St → Prop) : Prop :=
  ∀ h tk ρ E a', Rel C σ h ρ → Rep h ρ a a' → wpAny (model C.prog C.w) C.A (truthy a') (Post C σ h ρ repB K) E (C.at h tk)
noncomputable def CallK (C : Cx) (f : Value) (vs : List V) (σ : St) (K : V → St → Prop) : Prop :=
  ∀ h tk ρ E vs', Rel C σ h ρ → Reps h ρ vs vs' → wpAny (model C.prog C.w) C.A (call f vs') (Post C σ h ρ Rep K) E (C.at h tk)
noncomputable def SubK (C : Cx) (value slice : Expr) (o i : V) (σ : St) (K : V → St → Prop) : Prop :=
  ∀ h tk ρ E o' i', Rel C σ h ρ → Rep h ρ o o' → Rep h ρ i i' → wpAny (model C.prog C.w) C.A (subscriptTail value slice o' i') (Post C σ h ρ Rep K) E (C.at h tk)
noncomputable def SetK (C : Cx) (o i v : V) (σ : St) (K : St → Prop) : Prop :=
  ∀ h tk ρ E o' i' v', Rel C σ h ρ → Rep h ρ o o' → Rep h ρ i i' → Rep h ρ v v' → wpAny (model C.prog C.w) C.A (setItem o' i' v') (Post C σ h ρ repU (fun _ => K)) E (C.at h tk)


theorem mono' {α : Type} {M : Model} {A : Around} {E : Value → Shared → Prop} {s : Shared} {t : Sem α} {Q Q' : α → Shared → Prop} (h : wpAny M A t Q E s) (hQ : ∀ a s, Q a s → Q' a s) : wpAny M A t Q' E s := wpAny_mono h hQ fun _ _ x => x

theorem Ev.binop {l r : Expr} {op : Operator} {pos : Pos} (h : Ev C l σ fun a σ1 => Ev C r σ1 fun b σ2 => BinK C op a b σ2 K) : Ev C (.BinOp l op r pos) σ K := fun hp tk ρ E R => by
  refine wpAny_BinOp (mono' (h hp tk ρ E R) ?_)
  refine Post.elim fun a' h1 tk1 ρ1 a σ1 k1 S1 r1 => ?_
  refine mono' (k1 h1 tk1 ρ1 E S1.rel) ?_
  refine Post.elim fun b' h2 tk2 ρ2 b σ2 k2 S2 r2 => ?_
  exact mono' (k2 h2 tk2 ρ2 E a' b' S2.rel (S2.rep S1.rel r1) r2) fun _ _ p => p.up (S1.trans S2)
theorem Ev.cmp {l r : Expr} {op : CmpOp} {pos : Pos} (h : Ev C l σ fun a σ1 => Ev C r σ1 fun b σ2 => CmpK C op a b σ2 K) (hm : behindInMarks op r = false := by with_unfolding_all rfl) : Ev C (.Compare l [op] [r] pos) σ K := fun hp tk ρ E R => by
  refine wpAny_Compare1 (mono' (h hp tk ρ E R) ?_) hm
  refine Post.elim fun a' h1 tk1 ρ1 a σ1 k1 S1 r1 => ?_
  refine mono' (k1 h1 tk1 ρ1 E S1.rel) ?_
  refine Post.elim fun b' h2 tk2 ρ2 b σ2 k2 S2 r2 => ?_
  exact mono' (k2 h2 tk2 ρ2 E a' b' S2.rel (S2.rep S1.rel r1) r2) fun _ _ p => p.up (S1.trans S2)
theorem Ev.unop {x : Expr} {op : UnaryOp} {pos : Pos} (h : Ev C x σ fun a σ1 => UnK C op a σ1 K) : Ev C (.UnaryOp op x pos) σ K := fun hp tk ρ E R => by
  refine wpAny_UnaryOp (mono' (h hp tk ρ E R) ?_)
  refine Post.elim fun a' h1 tk1 ρ1 a σ1 k1 S1 r1 => ?_
  exact mono' (k1 h1 tk1 ρ1 E a' S1.rel r1) fun _ _ p => p.up S1
theorem Ev.ite {t b o : Expr} {pos : Pos} (h : EvB C t σ fun c σ1 => (c = true → Ev C b σ1 K) ∧ (c = false → Ev C o σ1 K)) : Ev C (.IfExp t b o pos) σ K := fun hp tk ρ E R => by
  refine wpAny_IfExp (mono' (h hp tk ρ E R) ?_)
  refine Post.elim fun c h1 tk1 ρ1 c' σ1 k1 S1 r1 => ?_
  have r1 : c = c' := r1
  subst r1
  cases c with
  | true => exact mono' (k1.1 rfl h1 tk1 ρ1 E S1.rel) fun _ _ p => p.up S1
  | false => exact mono' (k1.2 rfl h1 tk1 ρ1 E S1.rel) fun _ _ p => p.up S1
theorem Ev.and {x y : Expr} {pos : Pos} (h : Ev C x σ fun v σ1 => TruK C v σ1 fun c σ2 => (c = true → Ev C y σ2 K) ∧ (c = false → K v σ2)) : Ev C (.BoolOp .And [x, y] pos) σ K := fun hp tk ρ E R => by
  refine wpAny_And2 (mono' (h hp tk ρ E R) ?_)
  refine Post.elim fun a' h1 tk1 ρ1 a σ1 k1 S1 r1 => ?_
  refine mono' (k1 h1 tk1 ρ1 E a' S1.rel r1) ?_
  refine Post.elim fun c h2 tk2 ρ2 c' σ2 k2 S2 r2 => ?_
  have r2 : c = c' := r2
  subst r2
  cases c with
  | true => exact mono' (k2.1 rfl h2 tk2 ρ2 E S2.rel) fun _ _ p => p.up (S1.trans S2)
  | false => exact ⟨h2, tk2, ρ2, a, σ2, rfl, k2.2 rfl, S1.trans S2, S2.rep S1.rel r1⟩

/-- tests -/
theorem EvB.cmp {K : Bool → St → Prop} {l r : Expr} {op : CmpOp} {pos : Pos} (h : Ev C l σ fun a σ1 => Ev C r σ1 fun b σ2 => CmpK C op a b σ2 fun c σ3 => TruK C c σ3 K)
    (hm : behindInMarks op r = false := by with_unfolding_all rfl) : EvB C (.Compare l [op] [r] pos) σ K := fun hp tk ρ E R => by
  refine wpAny_isTrue_Compare1 (mono' (h hp tk ρ E R) ?_) hm
  refine Post.elim fun a' h1 tk1 ρ1 a σ1 k1 S1 r1 => ?_
  refine mono' (k1 h1 tk1 ρ1 E S1.rel) ?_
  refine Post.elim fun b' h2 tk2 ρ2 b σ2 k2 S2 r2 => ?_
  refine mono' (k2 h2 tk2 ρ2 E a' b' S2.rel (S2.rep S1.rel r1) r2) ?_
  refine Post.elim fun c' h3 tk3 ρ3 c σ3 k3 S3 r3 => ?_
  exact mono' (k3 h3 tk3 ρ3 E c' S3.rel r3) fun _ _ p => p.up ((S1.trans S2).trans S3)
theorem EvB.not {K : Bool → St → Prop} {x : Expr} {pos : Pos} (h : EvB C x σ fun b σ1 => K (!b) σ1) : EvB C (.UnaryOp .Not x pos) σ K := fun hp tk ρ E R => by
  refine wpAny_isTrue_Not (mono' (h hp tk ρ E R) ?_)
  refine Post.elim fun c h1 tk1 ρ1 c' σ1 k1 S1 r1 => ?_
  have r1 : c = c' := r1
  subst r1
  exact ⟨h1, tk1, ρ1, !c, σ1, rfl, k1, S1, rfl⟩
theorem EvB.val {K : Bool → St → Prop} {e : Expr} (h : Ev C e σ fun v σ1 => TruK C v σ1 K) (he : ∀ env whole, isTrue e env whole = (do let v ← whole; standAt e.pos; holding [v] (truthy v)) := by intro _ _; rfl) : EvB C e σ K := fun hp tk ρ E R => by
  refine wpAny_isTrue_value (mono' (h hp tk ρ E R) ?_) (he _ _)
  refine Post.elim fun a' h1 tk1 ρ1 a σ1 k1 S1 r1 => ?_
  exact mono' (k1 h1 tk1 ρ1 E a' S1.rel r1) fun _ _ p => p.up S1
noncomputable def EvBs (C : Cx) (op : BoolOp) (es : List Expr) (σ : St) (K : Bool → St → Prop) : Prop := WP C (allTrue op es C.env) repB σ K
theorem EvB.bool {K : Bool → St → Prop} {op : BoolOp} {es : List Expr} {pos : Pos} (h : EvBs C op es σ K) : EvB C (.BoolOp op es pos) σ K := fun hp tk ρ E R => wpAny_isTrue_BoolOp (h hp tk ρ E R)
theorem EvBs.andnil {K : Bool → St → Prop} (h : K true σ) : EvBs C .And [] σ K := fun _ _ _ _ R => wpAny_allTrue_And_nil (Post.ret R h rfl)
theorem EvBs.ornil {K : Bool → St → Prop} (h : K false σ) : EvBs C .Or [] σ K := fun _ _ _ _ R => wpAny_allTrue_Or_nil (Post.ret R h rfl)
theorem EvBs.andcons {K : Bool → St → Prop} {x : Expr} {es : List Expr} (h : EvB C x σ fun c σ1 => (c = true → EvBs C .And es σ1 K) ∧ (c = false → K false σ1)) : EvBs C .And (x :: es) σ K := fun hp tk ρ E R => by
  refine wpAny_allTrue_And_cons (mono' (h hp tk ρ E R) ?_)
  refine Post.elim fun c h1 tk1 ρ1 c' σ1 k1 S1 r1 => ?_
  have r1 : c = c' := r1
  subst r1
  cases c with
  | true => exact mono' (k1.1 rfl h1 tk1 ρ1 E S1.rel) fun _ _ p => p.up S1
  | false => exact ⟨h1, tk1, ρ1, _, σ1, rfl, k1.2 rfl, S1, rfl⟩
theorem EvBs.orcons {K : Bool → St → Prop} {x : Expr} {es : List Expr} (h : EvB C x σ fun c σ1 => (c = true → K true σ1) ∧ (c = false → EvBs C .Or es σ1 K)) : EvBs C .Or (x :: es) σ K := fun hp tk ρ E R => by
  refine wpAny_allTrue_Or_cons (mono' (h hp tk ρ E R) ?_)
  refine Post.elim fun c h1 tk1 ρ1 c' σ1 k1 S1 r1 => ?_
  have r1 : c = c' := r1
  subst r1
  cases c with
  | false => exact mono' (k1.2 rfl h1 tk1 ρ1 E S1.rel) fun _ _ p => p.up S1
  | true => exact ⟨h1, tk1, ρ1, _, σ1, rfl, k1.1 rfl, S1, rfl⟩

theorem TruK.bool {K : Bool → St → Prop} {b : Bool} (h : K b σ) : TruK C (.d (.bool b)) σ K := fun hp tk ρ E a' R r => by
  have r : a' = .bool b := by simpa only [Rep, RepD] using r
  subst r
  exact wpAny_truthy_bool (Post.ret R h rfl)

section
variable {i j : Int}
theorem repI {h : Heap} {ρ : Rho} {v : Value} (r : Rep h ρ (.d (.int i)) v) : ∃ t, v = .int i t := by simpa only [Rep, RepD] using r
theorem BinK.add (h : K (.d (.int (i + j))) σ) : BinK C .Add (.d (.int i)) (.d (.int j)) σ K := fun hp tk ρ E a' b' R ra rb => by
  obtain ⟨t, rfl⟩ := repI ra
  obtain ⟨u, rfl⟩ := repI rb
  exact P.add_int (Post.ret R h ⟨_, rfl⟩)
theorem BinK.sub (h : K (.d (.int (i - j))) σ) : BinK C .Sub (.d (.int i)) (.d (.int j)) σ K := fun hp tk ρ E a' b' R ra rb => by
  obtain ⟨t, rfl⟩ := repI ra
  obtain ⟨u, rfl⟩ := repI rb
  exact P.sub_int (Post.ret R h ⟨_, rfl⟩)
theorem AugK.add (h : K (.d (.int (i + j))) σ) : AugK C .Add (.d (.int i)) (.d (.int j)) σ K := fun hp tk ρ E a' b' R ra rb => by
  obtain ⟨t, rfl⟩ := repI ra
  obtain ⟨u, rfl⟩ := repI rb
  exact P.iadd_int (Post.ret R h ⟨_, rfl⟩)
theorem AugK.sub (h : K (.d (.int (i - j))) σ) : AugK C .Sub (.d (.int i)) (.d (.int j)) σ K := fun hp tk ρ E a' b' R ra rb => by
  obtain ⟨t, rfl⟩ := repI ra
  obtain ⟨u, rfl⟩ := repI rb
  exact P.isub_int (Post.ret R h ⟨_, rfl⟩)
theorem mulOk (hb : i.natAbs < 2 ^ 64) : IntMulOk i j := IntMulOk.of_left (intBits_le_64 (by (omega)) (by (omega)))
theorem BinK.mul (hb : i.natAbs < 2 ^ 64) (h : K (.d (.int (i * j))) σ) : BinK C .Mult (.d (.int i)) (.d (.int j)) σ K := fun hp tk ρ E a' b' R ra rb => by
  obtain ⟨t, rfl⟩ := repI ra
  obtain ⟨u, rfl⟩ := repI rb
  exact P.mul_int (Post.ret R h ⟨_, rfl⟩) (mulOk hb)
theorem fdiv_ediv (hj : 0 < j) : i.fdiv j = i / j := Int.fdiv_eq_ediv_of_nonneg _ (Int.le_of_lt hj)
theorem fmod_emod (hj : 0 < j) : i.fmod j = i % j := Int.fmod_eq_emod_of_nonneg _ (Int.le_of_lt hj)
theorem BinK.fdiv (hj : 0 < j) (hb : j < 1073741824) (h : K (.d (.int (i / j))) σ) : BinK C .FloorDiv (.d (.int i)) (.d (.int j)) σ K := fun hp tk ρ E a' b' R ra rb => by
  obtain ⟨t, rfl⟩ := repI ra
  obtain ⟨u, rfl⟩ := repI rb
  rw [← fdiv_ediv hj] at h
  exact floordiv_int (by lia) (Post.ret R h ⟨_, rfl⟩) (.inl (PyProof.noPylong_small (by (omega))))
theorem BinK.fdivn (hj : j ≠ 0) (hb : j.natAbs < 1073741824) (h : K (.d (.int (i.fdiv j))) σ) : BinK C .FloorDiv (.d (.int i)) (.d (.int j)) σ K := fun hp tk ρ E a' b' R ra rb => by
  obtain ⟨t, rfl⟩ := repI ra
  obtain ⟨u, rfl⟩ := repI rb
  skip
  exact floordiv_int hj (Post.ret R h ⟨_, rfl⟩) (.inl (PyProof.noPylong_small hb))
theorem BinK.mod (hj : 0 < j) (h : K (.d (.int (i % j))) σ) : BinK C .Mod (.d (.int i)) (.d (.int j)) σ K := fun hp tk ρ E a' b' R ra rb => by
  obtain ⟨t, rfl⟩ := repI ra
  obtain ⟨u, rfl⟩ := repI rb
  rw [← fmod_emod hj] at h
  exact mod_int' (by lia) (Post.ret R h ⟨_, rfl⟩)
theorem BinK.modn (hj : j ≠ 0) (h : K (.d (.int (i.fmod j))) σ) : BinK C .Mod (.d (.int i)) (.d (.int j)) σ K := fun hp tk ρ E a' b' R ra rb => by
  obtain ⟨t, rfl⟩ := repI ra
  obtain ⟨u, rfl⟩ := repI rb
  skip
  exact mod_int' hj (Post.ret R h ⟨_, rfl⟩)
theorem AugK.mod (hj : 0 < j) (h : K (.d (.int (i % j))) σ) : AugK C .Mod (.d (.int i)) (.d (.int j)) σ K := fun hp tk ρ E a' b' R ra rb => by
  obtain ⟨t, rfl⟩ := repI ra
  obtain ⟨u, rfl⟩ := repI rb
  rw [← fmod_emod hj] at h
  exact imod_int (by lia) (Post.ret R h ⟨_, rfl⟩)
theorem BinK.shl (hj : 0 ≤ j) (hb : j ≤ 1000) (hi : i.natAbs < 2 ^ 64) (h : K (.d (.int (i * 2 ^ j.toNat))) σ) : BinK C .LShift (.d (.int i)) (.d (.int j)) σ K := fun hp tk ρ E a' b' R ra rb => by
  obtain ⟨t, rfl⟩ := repI ra
  obtain ⟨u, rfl⟩ := repI rb
  skip
  exact lshift_int_small hj (by lia) hi (Post.ret R h ⟨_, rfl⟩)
theorem BinK.shr (hj : 0 ≤ j) (h : K (.d (.int (i / 2 ^ j.toNat))) σ) : BinK C .RShift (.d (.int i)) (.d (.int j)) σ K := fun hp tk ρ E a' b' R ra rb => by
  obtain ⟨t, rfl⟩ := repI ra
  obtain ⟨u, rfl⟩ := repI rb
  rw [← Int.fdiv_eq_ediv_of_nonneg _ (Int.le_of_lt (Int.pow_pos (by decide : (0:Int) < 2)))] at h
  exact rshift_int hj (Post.ret R h ⟨_, rfl⟩)
theorem AugK.shr (hj : 0 ≤ j) (h : K (.d (.int (i / 2 ^ j.toNat))) σ) : AugK C .RShift (.d (.int i)) (.d (.int j)) σ K := fun hp tk ρ E a' b' R ra rb => by
  obtain ⟨t, rfl⟩ := repI ra
  obtain ⟨u, rfl⟩ := repI rb
  rw [← Int.fdiv_eq_ediv_of_nonneg _ (Int.le_of_lt (Int.pow_pos (by decide : (0:Int) < 2)))] at h
  exact irshift_int hj (Post.ret R h ⟨_, rfl⟩)
theorem BinK.and (h : K (.d (.int (Builtin.bitAnd i j))) σ) : BinK C .BitAnd (.d (.int i)) (.d (.int j)) σ K := fun hp tk ρ E a' b' R ra rb => by
  obtain ⟨t, rfl⟩ := repI ra
  obtain ⟨u, rfl⟩ := repI rb
  exact and_int (Post.ret R h ⟨_, rfl⟩)
theorem BinK.or (h : K (.d (.int (Builtin.bitOr i j))) σ) : BinK C .BitOr (.d (.int i)) (.d (.int j)) σ K := fun hp tk ρ E a' b' R ra rb => by
  obtain ⟨t, rfl⟩ := repI ra
  obtain ⟨u, rfl⟩ := repI rb
  exact or_int (Post.ret R h ⟨_, rfl⟩)
theorem AugK.or (h : K (.d (.int (Builtin.bitOr i j))) σ) : AugK C .BitOr (.d (.int i)) (.d (.int j)) σ K := fun hp tk ρ E a' b' R ra rb => by
  obtain ⟨t, rfl⟩ := repI ra
  obtain ⟨u, rfl⟩ := repI rb
  exact ior_int (Post.ret R h ⟨_, rfl⟩)
theorem BinK.pow (hj : 0 ≤ j) (hb : (Builtin.Int.intBits i : Int) * j ≤ 2 ^ 27) (h : K (.d (.int (i ^ j.toNat))) σ) : BinK C .Pow (.d (.int i)) (.d (.int j)) σ K := fun hp tk ρ E a' b' R ra rb => by
  obtain ⟨t, rfl⟩ := repI ra
  obtain ⟨u, rfl⟩ := repI rb
  skip
  exact pow_int hj hb (Post.ret R h ⟨_, rfl⟩)
theorem CmpK.lt (h : K (.d (.bool (decide (i < j)))) σ) : CmpK C .Lt (.d (.int i)) (.d (.int j)) σ K := fun hp tk ρ E a' b' R ra rb => by
  obtain ⟨t, rfl⟩ := repI ra
  obtain ⟨u, rfl⟩ := repI rb
  exact P.lt_int (Post.ret R h rfl)
theorem CmpK.le (h : K (.d (.bool (decide (i ≤ j)))) σ) : CmpK C .LtE (.d (.int i)) (.d (.int j)) σ K := fun hp tk ρ E a' b' R ra rb => by
  obtain ⟨t, rfl⟩ := repI ra
  obtain ⟨u, rfl⟩ := repI rb
  exact P.le_int (Post.ret R h rfl)
theorem CmpK.gt (h : K (.d (.bool (decide (i > j)))) σ) : CmpK C .Gt (.d (.int i)) (.d (.int j)) σ K := fun hp tk ρ E a' b' R ra rb => by
  obtain ⟨t, rfl⟩ := repI ra
  obtain ⟨u, rfl⟩ := repI rb
  exact P.gt_int (Post.ret R h rfl)
theorem CmpK.ge (h : K (.d (.bool (decide (i ≥ j)))) σ) : CmpK C .GtE (.d (.int i)) (.d (.int j)) σ K := fun hp tk ρ E a' b' R ra rb => by
  obtain ⟨t, rfl⟩ := repI ra
  obtain ⟨u, rfl⟩ := repI rb
  exact P.ge_int (Post.ret R h rfl)
theorem CmpK.eq (h : K (.d (.bool (i == j))) σ) : CmpK C .Eq (.d (.int i)) (.d (.int j)) σ K := fun hp tk ρ E a' b' R ra rb => by
  obtain ⟨t, rfl⟩ := repI ra
  obtain ⟨u, rfl⟩ := repI rb
  exact P.eq_int (Post.ret R h rfl)
theorem CmpK.ne (h : K (.d (.bool (i != j))) σ) : CmpK C .NotEq (.d (.int i)) (.d (.int j)) σ K := fun hp tk ρ E a' b' R ra rb => by
  obtain ⟨t, rfl⟩ := repI ra
  obtain ⟨u, rfl⟩ := repI rb
  exact P.ne_int (Post.ret R h rfl)
theorem UnK.neg (h : K (.d (.int (-i))) σ) : UnK C .USub (.d (.int i)) σ K := fun hp tk ρ E a' R ra => by
  obtain ⟨t, rfl⟩ := repI ra
  exact P.neg_int (Post.ret R h ⟨_, rfl⟩)
theorem UnK.not {v : V} (h : TruK C v σ fun b σ1 => K (.d (.bool (!b))) σ1) : UnK C .Not v σ K := fun hp tk ρ E a' R ra => by
  refine not_value (mono' (h hp tk ρ E a' R ra) ?_)
  refine Post.elim fun c h1 tk1 ρ1 c' σ1 k1 S1 r1 => ?_
  have r1 : c = c' := r1
  subst r1
  exact ⟨h1, tk1, ρ1, _, σ1, rfl, k1, S1, rfl⟩
theorem repBo {h : Heap} {ρ : Rho} {b : Bool} {v : Value} (r : Rep h ρ (.d (.bool b)) v) : v = .bool b := by simpa only [Rep, RepD] using r
theorem CmpK.eqb {b c : Bool} (h : K (.d (.bool (b == c))) σ) : CmpK C .Eq (.d (.bool b)) (.d (.bool c)) σ K := fun hp tk ρ E a' b' R ra rb => by
  obtain rfl := repBo ra
  obtain rfl := repBo rb
  exact eq_bool (Post.ret R h rfl)
theorem CmpK.neb {b c : Bool} (h : K (.d (.bool (b != c))) σ) : CmpK C .NotEq (.d (.bool b)) (.d (.bool c)) σ K := fun hp tk ρ E a' b' R ra rb => by
  obtain rfl := repBo ra
  obtain rfl := repBo rb
  exact ne_bool (Post.ret R h rfl)
end
end
end Mine
end

section -- Fw3
open PySem PySem.W PySem.Calls PyProof.Rows
namespace Mine

section
variable {C : Cx} {σ : St} {K : V → St → Prop}

theorem RepDs.length {h : Heap} {M : Addr → Prop} : ∀ {l : List D} {vs : List Value}, RepDs h M l vs → vs.length = l.length
  | [], vs, e => by simp only [RepDs] at e; subst e; rfl
  | x :: l, vs, e => by
    simp only [RepDs] at e
    obtain ⟨v, r, rfl, _, h2⟩ := e
    simp only [List.length_cons, RepDs.length h2]
theorem RepDs.get {h : Heap} {M : Addr → Prop} : ∀ {l : List D} {vs : List Value} {i : Nat} {x : D}, RepDs h M l vs → l[i]? = some x → ∃ v, vs[i]? = some v ∧ RepD h M x v
  | [], _, _, _, _, hx => by simp at hx
  | y :: l, vs, i, x, e, hx => by
    simp only [RepDs] at e
    obtain ⟨v, r, rfl, h1, h2⟩ := e
    cases i with
    | zero => simp at hx; subst hx; exact ⟨v, rfl, h1⟩
    | succ i => simp only [List.getElem?_cons_succ] at hx ⊢; exact RepDs.get h2 hx
theorem RepDs.get' {h : Heap} {M : Addr → Prop} : ∀ {l : List D} {vs : List Value} {i : Nat} {v : Value}, RepDs h M l vs → vs[i]? = some v → ∃ x, l[i]? = some x ∧ RepD h M x v
  | [], vs, _, _, e, hx => by simp only [RepDs] at e; subst e; simp at hx
  | y :: l, vs, i, x, e, hx => by
    simp only [RepDs] at e
    obtain ⟨v, r, rfl, h1, h2⟩ := e
    cases i with
    | zero => simp at hx; subst hx; exact ⟨y, rfl, h1⟩
    | succ i => simp only [List.getElem?_cons_succ] at hx ⊢; exact RepDs.get' h2 hx
theorem RepDs.take {h : Heap} {M : Addr → Prop} : ∀ {l : List D} {vs : List Value} (i : Nat), RepDs h M l vs → RepDs h M (l.take i) (vs.take i)
  | _, _, 0, _ => by simp [RepDs]
  | [], vs, i + 1, e => by simp only [RepDs] at e; subst e; simp [RepDs]
  | x :: l, vs, i + 1, e => by
    simp only [RepDs] at e
    obtain ⟨v, r, rfl, h1, h2⟩ := e
    simp only [List.take_succ_cons, RepDs]
    exact ⟨v, _, rfl, h1, RepDs.take i h2⟩
theorem RepDs.drop {h : Heap} {M : Addr → Prop} : ∀ {l : List D} {vs : List Value} (i : Nat), RepDs h M l vs → RepDs h M (l.drop i) (vs.drop i)
  | _, _, 0, e => by simpa using e
  | [], vs, i + 1, e => by simp only [RepDs] at e; subst e; simp [RepDs]
  | x :: l, vs, i + 1, e => by
    simp only [RepDs] at e
    obtain ⟨v, r, rfl, h1, h2⟩ := e
    simp only [List.drop_succ_cons]
    exact RepDs.drop i h2
theorem RepDs.append {h : Heap} {M : Addr → Prop} : ∀ {l l' : List D} {vs vs' : List Value}, RepDs h M l vs → RepDs h M l' vs' → RepDs h M (l ++ l') (vs ++ vs')
  | [], _, vs, _, e, e' => by simp only [RepDs] at e; subst e; simpa using e'
  | x :: l, _, vs, _, e, e' => by
    simp only [RepDs] at e
    obtain ⟨v, r, rfl, h1, h2⟩ := e
    simp only [List.cons_append, RepDs]
    exact ⟨v, _, rfl, h1, RepDs.append h2 e'⟩
theorem RepDs.set {h : Heap} {M : Addr → Prop} {x : D} {v : Value} (hx : RepD h M x v) : ∀ {l : List D} {vs : List Value} (i : Nat), RepDs h M l vs → RepDs h M (l.set i x) (vs.set i v)
  | [], vs, i, e => by simp only [RepDs] at e; subst e; simp [RepDs]
  | y :: l, vs, 0, e => by
    simp only [RepDs] at e
    obtain ⟨u, r, rfl, h1, h2⟩ := e
    simp only [List.set_cons_zero, RepDs]
    exact ⟨v, _, rfl, hx, h2⟩
  | y :: l, vs, i + 1, e => by
    simp only [RepDs] at e
    obtain ⟨u, r, rfl, h1, h2⟩ := e
    simp only [List.set_cons_succ, RepDs]
    exact ⟨u, _, rfl, h1, RepDs.set hx i h2⟩
theorem RepDs.replicate {h : Heap} {M : Addr → Prop} {x : D} {v : Value} (hx : RepD h M x v) : ∀ (n : Nat), RepDs h M (List.replicate n x) (List.replicate n v)
  | 0 => by simp [RepDs]
  | n + 1 => by simp only [List.replicate_succ, RepDs]; exact ⟨v, _, rfl, hx, RepDs.replicate hx n⟩

/-- a list, whether it may still change or not -/
inductive ListAt (σ : St) : V → List D → Prop where
  | d {l : List D} : ListAt σ (.d (.list l)) l
  | mu {k : Nat} {l : List D} (h : σ.mu[k]? = some (some l)) : ListAt σ (.mu k) l
theorem ListAt.rep {h : Heap} {ρ : Rho} {v : V} {v' : Value} {l : List D} (L : ListAt σ v l) (R : Rel C σ h ρ) (r : Rep h ρ v v') :
    ∃ a vs n, v' = .ref a ∧ IsL h a vs n ∧ RepDs h ρ.gd l vs.toList := by
  cases L with
  | d => simp only [Rep, RepD] at r; obtain ⟨a, vs, n, h1, h2, _, h3⟩ := r; exact ⟨a, vs, n, h1, h2, h3⟩
  | mu hk =>
    obtain ⟨a, ha, hv⟩ := r
    obtain ⟨m, RM⟩ := R
    obtain ⟨a', vs, n, h1, h2, h3⟩ := RM.muts _ _ hk
    rw [ha] at h1; cases h1
    exact ⟨a, vs, n, hv, h2, h3⟩

theorem Ev.sub {value slice : Expr} {pos : Pos} (h : Ev C value σ fun o σ1 => Ev C slice σ1 fun i σ2 => SubK C value slice o i σ2 K) : Ev C (.Subscript value slice pos) σ K := fun hp tk ρ E R => by
  refine Subscript_ (mono' (h hp tk ρ E R) ?_)
  refine Post.elim fun a' h1 tk1 ρ1 a σ1 k1 S1 r1 => ?_
  refine mono' (k1 h1 tk1 ρ1 E S1.rel) ?_
  refine Post.elim fun b' h2 tk2 ρ2 b σ2 k2 S2 r2 => ?_
  exact mono' (k2 h2 tk2 ρ2 E a' b' S2.rel (S2.rep S1.rel r1) r2) fun _ _ p => p.up (S1.trans S2)

theorem SubK.list {value slice : Expr} {o : V} {l : List D} {k : Int} {x : D} (L : ListAt σ o l) (h0 : 0 ≤ k) (hk : k < 2 ^ 63) (hx : l[k.toNat]? = some x) (h : K (.d x) σ)
    (hs : ∀ a u, subscripted slice false (.ref a) (.int k u) = operate [.ref a, .int k u] (getItem (.ref a) (.int k u)) := by intro _ _; with_unfolding_all rfl) : SubK C value slice o (.d (.int k)) σ K := fun hp tk ρ E o' i' R ro ri => by
  obtain ⟨t, rfl⟩ := repI ri
  obtain ⟨a, vs, n, rfl, hl, hr⟩ := L.rep R ro
  obtain ⟨v, hv, rv⟩ := hr.get hx
  exact tail_any hl.isList.typeIs slot_list_getitem.lookup (wpAny_getItem_list hl.isList h0 hk (by simpa using hv) (Post.ret R h rv)) (hs _ _)
theorem SubK.listneg {value slice : Expr} {o : V} {l : List D} {k : Int} {x : D} (L : ListAt σ o l) (h0 : k < 0) (h1 : -(l.length : Int) ≤ k) (hk : -(2 ^ 63) ≤ k) (hx : l[(k + l.length).toNat]? = some x) (h : K (.d x) σ)
    (hs : ∀ a u, subscripted slice false (.ref a) (.int k u) = operate [.ref a, .int k u] (getItem (.ref a) (.int k u)) := by intro _ _; with_unfolding_all rfl) : SubK C value slice o (.d (.int k)) σ K := fun hp tk ρ E o' i' R ro ri => by
  obtain ⟨t, rfl⟩ := repI ri
  obtain ⟨a, vs, n, rfl, hl, hr⟩ := L.rep R ro
  obtain ⟨v, hv, rv⟩ := hr.get hx
  have e : vs.size = l.length := by have := hr.length; simpa using this
  exact tail_any hl.isList.typeIs slot_list_getitem.lookup (wpAny_getItem_list_neg hl.isList h0 (by rw [e]; exact h1) hk (by rw [e]; simpa using hv) (Post.ret R h rv)) (hs _ _)
theorem SubK.tup {value slice : Expr} {l : List D} {k : Int} {x : D} (h0 : 0 ≤ k) (hk : k < 2 ^ 63) (hx : l[k.toNat]? = some x) (h : K (.d x) σ)
    (hs : ∀ a u, subscripted slice false (.ref a) (.int k u) = operate [.ref a, .int k u] (getItem (.ref a) (.int k u)) := by intro _ _; with_unfolding_all rfl) : SubK C value slice (.d (.tup l)) (.d (.int k)) σ K := fun hp tk ρ E o' i' R ro ri => by
  obtain ⟨t, rfl⟩ := repI ri
  simp only [Rep, RepD] at ro
  obtain ⟨a, vs, n, rfl, hl, _, hr⟩ := ro
  obtain ⟨v, hv, rv⟩ := hr.get hx
  have hlt : k.toNat < vs.size := by
    have := (List.getElem?_eq_some_iff.mp hv).1
    simpa using this
  refine tail_any (T := "tuple") ⟨_, hl, rfl⟩ slot_tuple_getitem.lookup (PyProof.Rows.getItem_tuple (⟨_, hl, rfl, n, rfl⟩ : IsTup hp a vs) (by lia) hk (seqIndex_of h0 (by lia)) (by simpa using hv) (Post.ret R h rv)) (hs _ _)

/-- slices -/
noncomputable def EvP (C : Cx) (x : Option Expr) (σ : St) (K : Option Int → St → Prop) : Prop := WP C (evalPart x C.env) (fun _ _ (o : Option Int) v => IsPart v o) σ K
theorem EvP.none {K : Option Int → St → Prop} (h : K none σ) : EvP C none σ K := fun _ _ _ _ R => wpAny_pure (Post.ret R h .none)
theorem EvP.some {K : Option Int → St → Prop} {e : Expr} (h : Ev C e σ fun v σ1 => ∃ i, v = .d (.int i) ∧ K (some i) σ1) : EvP C (some e) σ K := fun hp tk ρ E R => by
  rw [evalPart_some]
  refine mono' (h hp tk ρ E R) ?_
  refine Post.elim fun a' h1 tk1 ρ1 a σ1 kk0 S1 r1 => ?_
  obtain ⟨i, rfl, k1⟩ := kk0
  obtain ⟨t, rfl⟩ := repI r1
  exact ⟨h1, tk1, ρ1, _, σ1, rfl, k1, S1, .int i t⟩

noncomputable def cutD (l : List D) (lo hi : Option Int) : List D := (l.drop (lo.elim 0 (clipAt l.length))).take (hi.elim l.length (clipAt l.length) - lo.elim 0 (clipAt l.length))
theorem Ev.slice {value : Expr} {lower upper : Option Expr} {p pos : Pos}
    (h : Ev C value σ fun o σ1 => EvP C lower σ1 fun lo σ2 => EvP C upper σ2 fun hi σ3 => ∃ l, ListAt σ3 o l ∧ l.length ≤ 1000000 ∧ K (.d (.list (cutD l lo hi))) σ3)
    (ht : ∀ o r, letTemporaryGo value o r = pure () := by intro _ _; rfl) : Ev C (.Subscript value (.Slice lower upper none p) pos) σ K := fun hp tk ρ E R => by
  refine wpAny_Subscript_Slice slot_list_getitem.lookup ?_ ht
  refine mono' (h hp tk ρ E R) ?_
  refine Post.elim fun o' h1 tk1 ρ1 o σ1 k1 S1 r1 => ?_
  refine wpAny_Slice (mono' (k1 h1 tk1 ρ1 E S1.rel) ?_)
  refine Post.elim fun lo' h2 tk2 ρ2 lo σ2 k2 S2 r2 => ?_
  refine mono' (k2 h2 tk2 ρ2 E S2.rel) ?_
  refine Post.elim fun hi' h3 tk3 ρ3 hi σ3 kk0 S3 r3 => ?_
  obtain ⟨l, L, hsz, k3⟩ := kk0
  rw [evalPart_none]
  refine wpAny_pure ?_
  have ro := (S2.trans S3).rep S1.rel r1
  obtain ⟨a, vs, n, rfl, hl, hr⟩ := L.rep S3.rel ro
  have e : vs.size = l.length := by have := hr.length; simpa using this
  have hl' : IsL (h3.push { cls := .type "slice", data := .fields #[lo', hi', .none] }) a vs n := hl.push _
  refine ⟨hl'.isList.typeIs, wpAny_getItem_list_slice hl'.isList (Heap.IsSliceOf.new ..) r2 r3 .none (by simp) ?_ (by rw [sizeLine_eq]; lia)⟩
  have S4 := Step.growG (h' := (h3.push { cls := .type "slice", data := .fields #[lo', hi', .none] }).push { cls := .type "list", data := .seq (slicePick vs lo hi none) }) S3.rel fun b o q => Heap.get?_push_of_some _ (Heap.get?_push_of_some _ q)
  refine ⟨_, tk3, _, _, σ3, rfl, k3, ((S1.trans S2).trans S3).trans S4, ?_⟩
  simp only [Rep, RepD]
  refine ⟨_, _, 0, rfl, IsL.new _ _, .inr ⟨Heap.get?_none_of_le (by rw [Heap.size_push]; exact Nat.le_succ _), _, IsL.new _ _⟩, ?_⟩
  have e2 : (slicePick vs lo hi none).toList = (vs.toList.drop (lo.elim 0 (clipAt vs.size))).take (hi.elim vs.size (clipAt vs.size) - lo.elim 0 (clipAt vs.size)) := by rw [slicePick_plain]
  rw [e2]
  unfold cutD
  rw [← e]
  exact RepDs.take _ (RepDs.drop _ (S4.repDs S3.rel hr))

/-- item stores -/
noncomputable def St.put (σ : St) (k : Nat) (l : List D) : St := { σ with mu := σ.mu.set k (some l) }
theorem live_put {k : Nat} {l l₀ : List D} {ρ : Rho} {a : Addr} (hk : σ.mu[k]? = some (some l₀)) : Live (σ.put k l) ρ a ↔ Live σ ρ a := by
  constructor
  · rintro ⟨j, l', hj, hr⟩
    unfold St.put at hj
    dsimp only at hj
    by_cases e : j = k
    · subst e; exact ⟨j, l₀, hk, hr⟩
    · rw [List.getElem?_set_ne (Ne.symm e)] at hj; exact ⟨j, l', hj, hr⟩
  · rintro ⟨j, l', hj, hr⟩
    by_cases e : j = k
    · subst e
      refine ⟨j, l, ?_, hr⟩
      have : j < σ.mu.length := (List.getElem?_eq_some_iff.mp hj).1
      simp [St.put, this]
    · refine ⟨j, l', ?_, hr⟩
      unfold St.put
      dsimp only
      rw [List.getElem?_set_ne (Ne.symm e)]; exact hj
/-- one mutable list changed, nothing else -/
theorem Step.put {h h' : Heap} {ρ : Rho} {k : Nat} {a : Addr} {l l₀ : List D} {vs : Array Value} {n : Nat} (R : Rel C σ h ρ) (hk : σ.mu[k]? = some (some l₀)) (ha : ρ.ad[k]? = some a)
    (hs : ∀ b o, b ≠ a → h.get? b = some o → h'.get? b = some o) (hl : IsL h' a vs n) (hr : RepDs h ρ.gd l vs.toList) : Step C σ h ρ (σ.put k l) h' ρ := by
  have la : Live σ ρ a := ⟨k, l₀, hk, ha⟩
  have hL : ∀ b vs n, IsL h b vs n → ρ.gd b → IsL h' b vs n ∧ ρ.gd b := fun b vs n x y => ⟨hs b _ (fun e => gd_not_live R y (e ▸ la)) x, y⟩
  have hT : ∀ b vs n, IsT h b vs n → ρ.gd b → IsT h' b vs n ∧ ρ.gd b := fun b vs n x y => ⟨hs b _ (fun e => gd_not_live R y (e ▸ la)) x, y⟩
  have own : ∀ b, Own C b → b ≠ a := fun b hb e => own_not_live R hb (e ▸ la)
  obtain ⟨m, RM⟩ := R
  refine ⟨⟨m, by rw [RM.len]; simp [St.put], RM.inj, fun j l' e => ?_, fun i v e => ?_, RM.ns.at' fun o e => hs _ o (own _ (.inl rfl)) e, fun x c e => ?_, fun b o e => ?_, fun b hb => RM.liveg b ((live_put hk).mp hb), fun i b e => ?_, fun b hb => RM.livegd b ((live_put hk).mp hb), fun i b e => (RM.adg i b e).imp id (live_put hk).mpr, RM.gg, fun b g => ?_⟩, ⟨[], by simp⟩, fun b hb => .inl ((live_put hk).mp hb), fun b o e _ nl => hs b o (fun q => nl (q ▸ la)) e, fun _ x => .inl x, fun _ x => x⟩
  · by_cases q : j = k
    · subst q
      have : j < σ.mu.length := (List.getElem?_eq_some_iff.mp hk).1
      simp [St.put, this] at e
      subst e
      exact ⟨a, vs, n, ha, hl, RepDs.mono hL hT _ _ hr⟩
    · unfold St.put at e
      dsimp only at e
      rw [List.getElem?_set_ne (Ne.symm q)] at e
      obtain ⟨b, vs', n', h1, h2, h3⟩ := RM.muts j l' e
      refine ⟨b, vs', n', h1, hs b _ (fun z => q ?_) h2, RepDs.mono hL hT _ _ h3⟩
      subst z
      exact RM.inj j k b h1 ha
  · obtain ⟨x, c, v', h1, h2, h3⟩ := RM.locs i v e
    refine ⟨x, c, v', h1, ?_, h3.mono hL hT ⟨[], by simp⟩⟩
    cases c with
    | none => exact h2
    | some c =>
      obtain ⟨o, ho, hd⟩ := h2
      exact ⟨o, hs c o (own c (.inr ⟨x, List.mem_of_getElem? h1⟩)) ho, hd⟩
  · obtain ⟨v, o, ho, hd⟩ := RM.cells x c e
    exact ⟨v, o, hs c o (own c (.inr ⟨x, e⟩)) ho, hd⟩
  · exact hs b o (fun z => by rw [z, RM.liveg a la] at e; cases e) (RM.glob b o e)
  · by_cases z : b = a
    · subst z; exact ⟨vs, n, hl⟩
    · obtain ⟨vs', n', q⟩ := RM.rin i b e
      exact ⟨vs', n', hs b _ z q⟩
  · obtain ⟨o, ho⟩ := RM.gin b g
    exact ⟨o, hs b o (fun e => gd_not_live ⟨m, RM⟩ g (e ▸ la)) ho⟩


theorem set_at {prog : Program} {w : World} {A : Around} {E : Value → Shared → Prop} {s : Shared} {a : Addr} {vs : Array Value} {n : Nat} {i : Int} {t : Tok} {v : Value} {Q : Unit → Shared → Prop} (ho : IsL s.heap a vs n) (h0 : 0 ≤ i) (hi : i < 2 ^ 63) (hn : i.toNat < vs.size)
    (hQ : Q () { s with heap := s.heap.update a (Obj.mapSeq (·.setIfInBounds i.toNat v)) }) : wpAny (model prog w) A (setItem (.ref a) (.int i t) v) Q E s := by
  have L : s.heap.IsList a vs := ⟨_, ho, rfl, n, rfl⟩
  unfold setItem
  try with_reducible refine wpAny_holding ?_
  refine wpAny_bind (wpAny_sequenceKey L.typeIs (by decide) (wpAny_bind (wpAny_callSpecial?_slot (name := Str.ofString "__setitem__") L.typeIs slot_list_setitem (wpAny_call_entry slot_list_setitem L.typeIs entry_list_setitem ?_ (args_list_setitem _ _ _)))))
  show wpAny _ _ (Builtin.List.listSubscript? (.int i t) >>= _) _ _ s
  refine wpAny_bind (wpAny_listSubscript_int (fitsIndex_of h0 hi) ?_)
  clear hi
  cases i with
  | negSucc m => exact absurd h0 (by lia)
  | ofNat m =>
    show wpAny _ _ ((seqItemAt a m >>= fun r => pure (r.map (m, ·))) >>= _) _ _ s
    refine wpAny_bind (wpAny_bind (wpAny_seqItemAt ho rfl (wpAny_pure ?_)))
    rw [Array.getElem?_eq_getElem (xs := vs) (i := m) hn]
    show wpAny _ _ (setSeqItemAt a m v >>= _) _ _ s
    refine wpAny_bind (wpAny_setSeqItemAt ho rfl ?_)
    first
      | exact wpAny_pure ⟨.none, rfl, wpAny_pure hQ⟩
      | exact wpAny_bind (wpAny_pure (wpAny_pure ⟨.none, rfl, wpAny_pure hQ⟩))

theorem SetK.mu {K : St → Prop} {k : Nat} {l : List D} {i : Int} {x : D} (hk : σ.mu[k]? = some (some l)) (h0 : 0 ≤ i) (hi : i < 2 ^ 63) (hlt : i.toNat < l.length) (h : K (σ.put k (l.set i.toNat x))) : SetK C (.mu k) (.d (.int i)) (.d x) σ K := fun hp tk ρ E o' i' v' R ro ri rv => by
  obtain ⟨t, rfl⟩ := repI ri
  obtain ⟨a, ha, rfl⟩ := ro
  obtain ⟨m, RM⟩ := id R
  obtain ⟨a', vs, n, h1, h2, h3⟩ := RM.muts _ _ hk
  rw [ha] at h1; cases h1
  have e : vs.size = l.length := by have := h3.length; simpa using this
  refine set_at h2 h0 hi (by lia) ?_
  have hs := Heap.SameBut.update hp a (Obj.mapSeq (·.setIfInBounds i.toNat v'))
  refine ⟨_, tk, ρ, (), _, rfl, h, Step.put R hk ha (fun b o hb q => hs.extBut b o hb q) (h2.update _) ?_, trivial⟩
  have := RepDs.set rv i.toNat h3
  simpa using this

/-- append -/
theorem Ex.append {K : Fl → St → Prop} {o e : Expr} {apos pos pos' : Pos} {k : Nat} {pl : Sem Bool}
    (h : Ev C o σ fun ov σ1 => ov = .mu k ∧ (∃ l₁, σ1.mu[k]? = some (some l₁)) ∧ Ev C e σ1 fun v σ2 => ∃ x l, v = .d x ∧ σ2.mu[k]? = some (some l) ∧ l.length ≤ 1000000 ∧ K .next (σ2.put k (l ++ [x])))
    (he : eval (.Call (.Attribute o (Str.ofString "append") apos) [e] [] pos) C.env = (do
      let ov ← eval o C.env
      standAt apos.atName
      let (f, first) ← holding [ov] (getMethod ov (Str.ofString "append") pl)
      callWith pos f first (backTo pos (starEach [e] C.env)) []) := by rfl)
    (hst : starEach [e] C.env = (false, eval e C.env) :: starEach [] C.env := by rfl)
    (hi : interactive C.env = false := by rfl) (hsw : swapsWith (.Call (.Attribute o (Str.ofString "append") apos) [e] [] pos) none pos'.line C.env = pure false := by rfl) :
    Ex C (.Expr (.Call (.Attribute o (Str.ofString "append") apos) [e] [] pos) pos') σ K := fun hp tk ρ E R => by
  refine wpAny_Expr (MethodCall_ (mono' (h hp tk ρ E R) ?_) he) hi hsw
  refine Post.elim fun o' h1 tk1 ρ1 o σ1 kk0 S1 r1 => ?_
  obtain ⟨rfl, ⟨l₁, hl₁⟩, k1⟩ := kk0
  obtain ⟨a, ha, rfl⟩ := r1
  have la : ∃ vs n, IsL h1 a vs n := live_obj S1.rel ⟨k, l₁, hl₁, ha⟩
  obtain ⟨vs, n, hl⟩ := la
  refine getMethod_list_append hl rfl rfl ?_
  refine callWith_method1 ?_ hst rfl
  refine wpAny_items_cons ?_ hst
  refine mono' (k1 h1 tk1 ρ1 E S1.rel) ?_
  refine Post.elim fun v' h2 tk2 ρ2 v σ2 kk0 S2 r2 => ?_
  obtain ⟨x, l, rfl, hk, hsz, k2⟩ := kk0
  refine wpAny_items_nil ?_
  obtain ⟨r, hr⟩ := S2.ext
  have ha2 : ρ2.ad[k]? = some a := by
    rw [hr, List.getElem?_append_left (List.getElem?_eq_some_iff.mp ha).1]; exact ha
  obtain ⟨m, RM⟩ := id S2.rel
  obtain ⟨a', vs2, n2, h3, h4, h5⟩ := RM.muts _ _ hk
  rw [ha2] at h3; cases h3
  have e : vs2.size = l.length := by have := h5.length; simpa using this
  refine wpAny_list_append_plain ⟨n2, h4⟩ (fun h6 hl6 hs6 => ?_) (by rw [sizeLine_eq]; lia)
  obtain ⟨n6, hl6⟩ := hl6
  refine ⟨h6, tk2, _, .next, _, rfl, k2, (S1.trans S2).trans (Step.put S2.rel hk ha2 (fun b o hb q => hs6.extBut b o hb q) hl6 ?_), rfl⟩
  have : RepDs h2 ρ2.gd [x] [v'] := by simp only [RepDs]; exact ⟨v', [], rfl, r2, rfl⟩
  have := RepDs.append h5 this
  simpa using this
end
end Mine
end

section -- Fw4
open PySem PySem.W PySem.Calls PyProof.Rows
namespace Mine

section
variable {C : Cx} {σ : St} {K : V → St → Prop}

/-- arguments, items -/
noncomputable def EvA (C : Cx) (pos : Pos) (es : List Expr) (σ : St) (K : List V → St → Prop) : Prop := WP C (spliced (backTo pos (starEach es C.env))) Reps σ K
theorem EvA.nil {K : List V → St → Prop} {pos : Pos} (h : K [] σ) : EvA C pos [] σ K := fun _ _ _ _ R => wpAny_items_nil (Post.ret R h rfl)
theorem EvA.cons {K : List V → St → Prop} {pos : Pos} {e : Expr} {es : List Expr} (h : Ev C e σ fun v σ1 => EvA C pos es σ1 fun vs σ2 => K (v :: vs) σ2)
    (he : starEach (e :: es) C.env = (false, eval e C.env) :: starEach es C.env := by rfl) : EvA C pos (e :: es) σ K := fun hp tk ρ E R => by
  refine wpAny_items_cons (mono' (h hp tk ρ E R) ?_) he
  refine Post.elim fun a' h1 tk1 ρ1 a σ1 k1 S1 r1 => ?_
  refine mono' (k1 h1 tk1 ρ1 E S1.rel) ?_
  refine Post.elim fun vs h2 tk2 ρ2 b σ2 k2 S2 r2 => ?_
  exact ⟨h2, tk2, ρ2, _, σ2, rfl, k2, S1.trans S2, ⟨a', vs, rfl, S2.rep S1.rel r1, r2⟩⟩

inductive Fun (g : Heap) : Value → Prop where
  | builtin (id : String) : Fun g (.builtin id)
  | type (T : String) : Fun g (.type T)
  | fn (a : Addr) (o : Obj) (fd : FuncData) (ho : g.get? a = some o) (hd : o.data = .func fd) : Fun g (.ref a)

theorem Ev.callf {func e : Expr} {es : List Expr} {pos : Pos}
    (h : Ev C func σ fun f σ1 => ∃ f', f = .d (.val f') ∧ Fun C.g f' ∧ EvA C pos (e :: es) σ1 fun vs σ2 => CallK C f' vs σ2 K)
    (hst : starEach (e :: es) C.env = (false, eval e C.env) :: starEach es C.env := by rfl)
    (hplain : (backTo pos (starEach es C.env)).any (·.1) = false := by rfl)
    (he : eval (.Call func (e :: es) [] pos) C.env = (do callWith pos (← eval func C.env) [] (backTo pos (starEach (e :: es) C.env)) []) := by rfl) :
    Ev C (.Call func (e :: es) [] pos) σ K := fun hp tk ρ E R => by
  rw [he]
  refine wpAny_bind (mono' (h hp tk ρ E R) ?_)
  refine Post.elim fun f' h1 tk1 ρ1 f σ1 kk0 S1 r1 => ?_
  obtain ⟨f'', rfl, hf, k1⟩ := kk0
  have r1 : f' = f'' := by simpa only [Rep, RepD] using r1
  subst r1
  have args : wpAny (model C.prog C.w) C.A (spliced (backTo pos (starEach (e :: es) C.env))) (fun vs s₂ => (∃ h2 tk2, s₂ = C.at h2 tk2 ∧ ∀ b o, C.g.get? b = some o → h2.get? b = some o) ∧ wpAny (model C.prog C.w) C.A (call f' vs) (Post C σ hp ρ Rep K) E s₂) E (C.at h1 tk1) := by
    refine mono' (k1 h1 tk1 ρ1 E S1.rel) ?_
    refine Post.elim fun vs h2 tk2 ρ2 b σ2 k2 S2 r2 => ?_
    refine ⟨⟨h2, tk2, rfl, ?_⟩, mono' (k2 h2 tk2 ρ2 E vs S2.rel r2) fun _ _ p => p.up (S1.trans S2)⟩
    obtain ⟨m, RM⟩ := S2.rel
    exact RM.glob
  have pl : (backTo pos (starEach (e :: es) C.env)).any (·.1) = false := by rw [hst]; exact hplain
  cases hf with
  | builtin id =>
    refine callWith_builtin pl ?_
    rw [hst] at args ⊢
    exact evalArgs_plain (mono' args fun _ _ x => x.2)
  | type T =>
    refine PyProof.Rows.callWith_type pl ?_
    rw [hst] at args ⊢
    exact evalArgs_plain (mono' args fun _ _ x => x.2)
  | fn a o fd ho hd =>
    refine callWith_function (o := o) (fd := fd) ?_
    rw [hst] at args ⊢
    refine evalArgs_plain (mono' args fun vs s x => ?_)
    obtain ⟨⟨h2, tk2, rfl, hg⟩, x⟩ := x
    exact ⟨⟨hg a o ho, hd⟩, x⟩

/-- builtins -/
theorem reps1 {h : Heap} {ρ : Rho} {x : V} {vs : List Value} (r : Reps h ρ [x] vs) : ∃ v, vs = [v] ∧ Rep h ρ x v := by
  obtain ⟨v, _, rfl, h1, rfl⟩ := r; exact ⟨v, rfl, h1⟩
theorem reps2 {h : Heap} {ρ : Rho} {x y : V} {vs : List Value} (r : Reps h ρ [x, y] vs) : ∃ v u, vs = [v, u] ∧ Rep h ρ x v ∧ Rep h ρ y u := by
  obtain ⟨v, _, rfl, h1, u, _, rfl, h2, rfl⟩ := r; exact ⟨v, u, rfl, h1, h2⟩
theorem CallK.len {o : V} {l : List D} (L : ListAt σ o l) (hk : l.length ≤ 1000000) (h : K (.d (.int l.length)) σ) : CallK C (.builtin "len") [o] σ K := fun hp tk ρ E vs R r => by
  obtain ⟨v, rfl, r1⟩ := reps1 r
  obtain ⟨a, vs, n, rfl, hl, hr⟩ := L.rep R r1
  have e : vs.size = l.length := by have := hr.length; simpa using this
  refine call_len_list hl.isList (by lia) ?_
  exact ⟨hp, _, ρ, _, σ, rfl, h, .refl R, ⟨_, by rw [e]⟩⟩
theorem CallK.abs {i : Int} (h : K (.d (.int i.natAbs)) σ) : CallK C (.builtin "abs") [.d (.int i)] σ K := fun hp tk ρ E vs R r => by
  obtain ⟨v, rfl, r1⟩ := reps1 r
  obtain ⟨t, rfl⟩ := repI r1
  refine call_abs_int fun u tk' => ⟨hp, tk', ρ, _, σ, rfl, h, .refl R, ⟨u, ?_⟩⟩
  congr 1
  split <;> (omega)
theorem CallK.toint {i : Int} (h : K (.d (.int i)) σ) : CallK C (.type "int") [.d (.int i)] σ K := fun hp tk ρ E vs R r => by
  obtain ⟨v, rfl, r1⟩ := reps1 r
  obtain ⟨t, rfl⟩ := repI r1
  exact call_int_int (Post.ret R h ⟨_, rfl⟩)
theorem CallK.min {i j : Int} (hh : C.A.handled = none) (h : K (.d (.int (if j < i then j else i))) σ) : CallK C (.builtin "min") [.d (.int i), .d (.int j)] σ K := fun hp tk ρ E vs R r => by
  obtain ⟨v, u, rfl, r1, r2⟩ := reps2 r
  obtain ⟨t, rfl⟩ := repI r1
  obtain ⟨t2, rfl⟩ := repI r2
  refine min_two_ints hh fun h' tk' hk => ?_
  refine ⟨h', tk', ρ, _, σ, rfl, h, .grow R hk, ?_⟩
  split <;> exact ⟨_, rfl⟩
theorem CallK.bits {i : Int} {K : V → St → Prop} (h : K (.d (.int (Builtin.Int.intBits i))) σ) : CallK C (.builtin "int.bit_length") [.d (.int i)] σ K := fun hp tk ρ E vs R r => by
  obtain ⟨v, rfl, r1⟩ := reps1 r
  obtain ⟨t, rfl⟩ := repI r1
  exact PyProof.Rows.call_int_bit_length (Post.ret R h ⟨_, rfl⟩)
theorem allInts {h : Heap} {M : Addr → Prop} : ∀ {ns : List Int} {vs : List Value}, RepDs h M (ns.map D.int) vs → IntsAre vs ns
  | [], vs, e => by simp only [List.map_nil, RepDs] at e; subst e; exact .nil
  | n :: r, vs, e => by
    simp only [List.map_cons, RepDs, RepD] at e
    obtain ⟨v, q, rfl, ⟨t, rfl⟩, h2⟩ := e
    exact .cons _ _ (allInts h2)
end
end Mine
end

section -- Fw5
open PySem PySem.W PySem.Calls PyProof.Rows
namespace Mine

section
variable {C : Cx} {σ : St} {K : Fl → St → Prop}

noncomputable def St.setl (σ : St) (i : Nat) (v : V) : St := { σ with loc := σ.loc.set i (some v) }
theorem live_setl {i : Nat} {v : V} {ρ : Rho} {a : Addr} : Live (σ.setl i v) ρ a ↔ Live σ ρ a := Iff.rfl

theorem name_ne {i j : Nat} {x y : Str} {c d : Option Addr} (ok : CxOk C) (hi : C.vt[i]? = some (x, c)) (hj : C.vt[j]? = some (y, d)) (h : j ≠ i) : y ≠ x := fun e => by
  have h1 : C.names[i]? = some x := by unfold Cx.names; rw [List.getElem?_map, hi]; rfl
  have h2 : C.names[j]? = some y := by unfold Cx.names; rw [List.getElem?_map, hj]; rfl
  subst e
  obtain ⟨l1, e1⟩ := List.getElem?_eq_some_iff.mp h1
  obtain ⟨l2, e2⟩ := List.getElem?_eq_some_iff.mp h2
  exact h ((List.getElem_inj ok.nd).mp (e2.trans e1.symm))

theorem store {h : Heap} {tk : Nat} {ρ : Rho} {E : Value → Shared → Prop} {i : Nat} {x : Str} {c : Option Addr} {v : V} {v' : Value} (ok : CxOk C) (R : Rel C σ h ρ) (hv : C.vt[i]? = some (x, c)) (r : Rep h ρ v v') :
    wpAny (model C.prog C.w) C.A (storeName C.env x v') (fun _ s' => Did C σ h ρ (σ.setl i v) s') E (C.at h tk) := by
  have hm := List.mem_of_getElem? hv
  have ownS : ∀ b, Own C b → ∀ h', Heap.SameBut b h h' → (∀ a vs n, IsL h a vs n → ρ.gd a → IsL h' a vs n ∧ ρ.gd a) ∧ (∀ a vs n, IsT h a vs n → ρ.gd a → IsT h' a vs n ∧ ρ.gd a) ∧ (∀ a vs n, IsL h a vs n → IsL h' a vs n) ∧
      (∀ b' o, C.g.get? b' = some o → h'.get? b' = some o) ∧ (∀ b' o, h.get? b' = some o → ¬ Own C b' → ¬ Live σ ρ b' → h'.get? b' = some o) ∧ (∀ b', (∃ o, h.get? b' = some o) → b' ≠ b → ∃ o, h'.get? b' = some o) := fun b hb h' hs => by
    have ne : ∀ a vs n, IsL h a vs n → a ≠ b := fun a vs n hl e => not_own_L R hl rfl (e ▸ hb)
    have neT : ∀ a vs n, IsT h a vs n → a ≠ b := fun a vs n hl e => not_own_L R hl rfl (e ▸ hb)
    refine ⟨fun a vs n hl nl => ⟨hs.extBut a _ (ne a vs n hl) hl, nl⟩, fun a vs n hl nl => ⟨hs.extBut a _ (neT a vs n hl) hl, nl⟩, fun a vs n hl => hs.extBut a _ (ne a vs n hl) hl, fun b' o e => ?_, fun b' o e no _ => hs.extBut b' o (fun q => no (q ▸ hb)) e,
      fun b' ⟨o, e⟩ z => ⟨o, hs.extBut b' o z e⟩⟩
    obtain ⟨m, RM⟩ := R
    exact hs.extBut b' o (fun q => by rw [q, ok.owng b hb] at e; cases e) (RM.glob b' o e)
  obtain ⟨m, RM⟩ := id R
  cases c with
  | none =>
    refine wpAny_storeName_local (ok.loc x hm) RM.ns (fun h' hn hs => ?_) (by rw [ok.kind]; rfl)
    obtain ⟨hL, hT, hL2, hG, hK, hI⟩ := ownS _ (.inl rfl) h' hs
    refine ⟨h', _, rfl, ⟨_, RM.len, RM.inj, fun k l e => ?_, fun j u e => ?_, hn, fun y d e => ?_, hG, RM.liveg, fun i b e => let ⟨vs, n, q⟩ := RM.rin i b e; ⟨vs, n, hL2 _ _ _ q⟩, RM.livegd, RM.adg, RM.gg, fun b g => ?_⟩, ⟨[], by simp⟩, fun _ q => .inl q, hK, fun _ q => .inl q, fun _ q => q⟩
    · obtain ⟨a, vs, n, h1, h2, h3⟩ := RM.muts k l e
      exact ⟨a, vs, n, h1, hL2 _ _ _ h2, RepDs.mono hL hT _ _ h3⟩
    · by_cases q : j = i
      · subst q
        unfold St.setl at e
        dsimp only at e
        rw [List.getElem?_set] at e
        rw [if_pos rfl] at e
        split at e
        · cases e
          exact ⟨x, none, v', hv, by simp [Holds], r.mono hL hT ⟨[], by simp⟩⟩
        · cases e
      · unfold St.setl at e
        dsimp only at e
        rw [List.getElem?_set_ne (Ne.symm q)] at e
        obtain ⟨y, d, u', h1, h2, h3⟩ := RM.locs j u e
        refine ⟨y, d, u', h1, ?_, h3.mono hL hT ⟨[], by simp⟩⟩
        cases d with
        | none => have h2 : m y = some u' := h2; simp only [Holds, if_neg (name_ne ok hv h1 q)]; exact h2
        | some d => exact Heap.IsCell.sameBut h2 hs fun q => ok.cl y (q ▸ List.mem_of_getElem? h1)
    · obtain ⟨u, hu⟩ := RM.cells y d e
      exact ⟨u, hu.sameBut hs fun q => ok.cl y (q ▸ e)⟩
    · by_cases z : b = C.env.locals
      · obtain ⟨o, _, _, ho, _⟩ := hn
        exact ⟨o, z ▸ ho⟩
      · exact hI b (RM.gin b g) z
  | some c =>
    obtain ⟨v₀, hc⟩ := RM.cells x c hm
    refine wpAny_storeName_cell ok.kind (ok.cel x c hm).1 (ok.cel x c hm).2 hc fun h' hc' hs => ?_
    obtain ⟨hL, hT, hL2, hG, hK, hI⟩ := ownS c (.inr ⟨x, hm⟩) h' hs
    have cL : C.env.locals ≠ c := fun q => ok.cl x (q ▸ hm)
    refine ⟨h', tk, rfl, ⟨m, RM.len, RM.inj, fun k l e => ?_, fun j u e => ?_, RM.ns.sameBut hs cL, fun y d e => ?_, hG, RM.liveg, fun i b e => let ⟨vs, n, q⟩ := RM.rin i b e; ⟨vs, n, hL2 _ _ _ q⟩, RM.livegd, RM.adg, RM.gg, fun b g => ?_⟩, ⟨[], by simp⟩, fun _ q => .inl q, hK, fun _ q => .inl q, fun _ q => q⟩
    · obtain ⟨a, vs, n, h1, h2, h3⟩ := RM.muts k l e
      exact ⟨a, vs, n, h1, hL2 _ _ _ h2, RepDs.mono hL hT _ _ h3⟩
    · by_cases q : j = i
      · subst q
        unfold St.setl at e
        dsimp only at e
        rw [List.getElem?_set] at e
        rw [if_pos rfl] at e
        split at e
        · cases e
          exact ⟨x, some c, v', hv, hc', r.mono hL hT ⟨[], by simp⟩⟩
        · cases e
      · unfold St.setl at e
        dsimp only at e
        rw [List.getElem?_set_ne (Ne.symm q)] at e
        obtain ⟨y, d, u', h1, h2, h3⟩ := RM.locs j u e
        refine ⟨y, d, u', h1, ?_, h3.mono hL hT ⟨[], by simp⟩⟩
        cases d with
        | none => exact h2
        | some d =>
          refine Heap.IsCell.sameBut h2 hs fun z => ?_
          subst z
          exact name_ne ok hv h1 q (ok.cnd _ _ _ (List.mem_of_getElem? h1) hm)
    · obtain ⟨u, hu⟩ := RM.cells y d e
      by_cases z : d = c
      · subst z; exact ⟨_, hc'⟩
      · exact ⟨u, hu.sameBut hs z⟩
    · by_cases z : b = c
      · obtain ⟨o, ho, _⟩ := hc'
        exact ⟨o, z ▸ ho⟩
      · exact hI b (RM.gin b g) z

theorem vt_of {ns : List Str} {x : Str} {i : Nat} (hn : C.names = ns) (hx : ns[i]? = some x) : ∃ c, C.vt[i]? = some (x, c) := by
  subst hn
  unfold Cx.names at hx
  rw [List.getElem?_map] at hx
  cases h : C.vt[i]? with
  | none => rw [h] at hx; cases hx
  | some p => rw [h] at hx; obtain ⟨y, c⟩ := p; cases hx; exact ⟨c, rfl⟩

/-- statements -/
theorem Exs.nil (h : K .next σ) : Exs C [] σ K := fun _ _ _ _ R => wpAny_execs_nil (Post.ret R h rfl)
@[reducible] noncomputable def seqK (C : Cx) (rest : List Stmt) (K : Fl → St → Prop) (f : Fl) (σ : St) : Prop := match f with
  | .next => Exs C rest σ K
  | f => K f σ
theorem Exs.cons {st : Stmt} {rest : List Stmt} (h : Ex C st σ (seqK C rest K)) : Exs C (st :: rest) σ K := fun hp tk ρ E R => by
  refine wpAny_execs_cons (mono' (h hp tk ρ E R) ?_)
  refine Post.elim fun f' h1 tk1 ρ1 f σ1 k1 S1 r1 => ?_
  cases f with
  | next => have r1 : f' = .next := r1; subst r1; exact mono' (k1 h1 tk1 ρ1 E S1.rel) fun _ _ p => p.up S1
  | brk => have r1 : f' = .brk := r1; subst r1; exact ⟨h1, tk1, ρ1, _, σ1, rfl, k1, S1, rfl⟩
  | cont => have r1 : f' = .cont := r1; subst r1; exact ⟨h1, tk1, ρ1, _, σ1, rfl, k1, S1, rfl⟩
  | ret v => obtain ⟨v', rfl, r1⟩ := r1; exact ⟨h1, tk1, ρ1, _, σ1, rfl, k1, S1, v', rfl, r1⟩
theorem Ex.ret {e : Expr} {pos : Pos} (h : Ev C e σ fun v σ1 => K (.ret v) σ1) : Ex C (.Return (some e) pos) σ K := fun hp tk ρ E R => by
  refine wpAny_Return_some (mono' (h hp tk ρ E R) ?_)
  refine Post.elim fun v' h1 tk1 ρ1 v σ1 k1 S1 r1 => ?_
  exact ⟨h1, tk1, ρ1, _, σ1, rfl, k1, S1, v', rfl, r1⟩
theorem Ex.ite {t : Expr} {b o : List Stmt} {pos : Pos} (h : EvB C t σ fun c σ1 => (c = true → Exs C b σ1 K) ∧ (c = false → Exs C o σ1 K)) : Ex C (.If t b o pos) σ K := fun hp tk ρ E R => by
  refine wpAny_If (mono' (h hp tk ρ E R) ?_)
  refine Post.elim fun c h1 tk1 ρ1 c' σ1 k1 S1 r1 => ?_
  have r1 : c = c' := r1
  subst r1
  cases c with
  | true => exact mono' (k1.1 rfl h1 tk1 ρ1 E S1.rel) fun _ _ p => p.up S1
  | false => exact mono' (k1.2 rfl h1 tk1 ρ1 E S1.rel) fun _ _ p => p.up S1
theorem Ex.set {ns : List Str} {x : Str} {p' pos : Pos} {e : Expr} (i : Nat) (ok : CxOk C) (hn : C.names = ns) (hx : ns[i]? = some x) (h : Ev C e σ fun v σ1 => K .next (σ1.setl i v))
    (hs : swapsWith e (some (.Name x p')) pos.line C.env = pure false := by rfl) : Ex C (.Assign [.Name x p'] e pos) σ K := fun hp tk ρ E R => by
  obtain ⟨c, hv⟩ := vt_of hn hx
  refine wpAny_Assign_Name (mono' (h hp tk ρ E R) ?_) hs
  refine Post.elim fun v' h1 tk1 ρ1 v σ1 k1 S1 r1 => ?_
  refine mono' (store (i := i) ok S1.rel hv r1) ?_
  refine Did.elim fun _ h2 tk2 S2 => ?_
  exact ⟨h2, tk2, ρ1, .next, _, rfl, k1, S1.trans S2, rfl⟩
theorem Ex.aug {ns : List Str} {x : Str} {p' pos : Pos} {op : Operator} {e : Expr} {v₀ : V} (i : Nat) (ok : CxOk C) (hn : C.names = ns) (hx : ns[i]? = some x) (hv : σ.loc[i]? = some (some v₀))
    (h : Ev C e σ fun v σ1 => AugK C op v₀ v σ1 fun r σ2 => K .next (σ2.setl i r)) : Ex C (.AugAssign (.Name x p') op e pos) σ K := fun hp tk ρ E R => by
  obtain ⟨c, hv'⟩ := vt_of hn hx
  refine wpAny_AugAssign_Name ?_
  have ld : wpAny (model C.prog C.w) C.A (loadName C.env x) (Post C σ hp ρ Rep fun v σ' => v = v₀ ∧ σ' = σ) E (C.at hp tk) := by
    obtain ⟨m, RM⟩ := id R
    obtain ⟨x', c', u, h1, h2, h3⟩ := RM.locs i v₀ hv
    obtain rfl := vt_at hn hx h1
    have hm := List.mem_of_getElem? h1
    cases c' with
    | none => exact wpAny_loadName_local ok.kind (ok.loc _ hm) RM.ns h2 (Post.ret R ⟨rfl, rfl⟩ h3)
    | some c => exact wpAny_loadName_cell ok.kind (ok.cel _ _ hm).1 (ok.cel _ _ hm).2 h2 (Post.ret R ⟨rfl, rfl⟩ h3)
  refine mono' ld ?_
  refine Post.elim fun a' h0 tk0 ρ0 a σ0 kk0 S0 r0 => ?_
  obtain ⟨rfl, rfl⟩ := kk0
  refine mono' (h h0 tk0 ρ0 E S0.rel) ?_
  refine Post.elim fun b' h1 tk1 ρ1 b σ1 k1 S1 r1 => ?_
  refine mono' (k1 h1 tk1 ρ1 E a' b' S1.rel (S1.rep S0.rel r0) r1) ?_
  refine Post.elim fun v' h2 tk2 ρ2 v σ2 k2 S2 r2 => ?_
  refine mono' (store (i := i) ok S2.rel hv' r2) ?_
  refine Did.elim fun _ h3 tk3 S3 => ?_
  exact ⟨h3, tk3, ρ2, .next, _, rfl, k2, ((S0.trans S1).trans S2).trans S3, rfl⟩
theorem Ex.setitem {o i e : Expr} {p' pos : Pos} (h : Ev C e σ fun v σ1 => Ev C o σ1 fun ov σ2 => Ev C i σ2 fun iv σ3 => SetK C ov iv v σ3 fun σ4 => K .next σ4)
    (hs : swapsWith e (some (.Subscript o i p')) pos.line C.env = pure false := by rfl) : Ex C (.Assign [.Subscript o i p'] e pos) σ K := fun hp tk ρ E R => by
  refine wpAny_Assign_Subscript (mono' (h hp tk ρ E R) ?_) hs
  refine Post.elim fun a' h1 tk1 ρ1 a σ1 k1 S1 r1 => ?_
  refine mono' (k1 h1 tk1 ρ1 E S1.rel) ?_
  refine Post.elim fun b' h2 tk2 ρ2 b σ2 k2 S2 r2 => ?_
  refine mono' (k2 h2 tk2 ρ2 E S2.rel) ?_
  refine Post.elim fun c' h3 tk3 ρ3 c σ3 k3 S3 r3 => ?_
  refine mono' (k3 h3 tk3 ρ3 E b' c' a' S3.rel (S3.rep S2.rel r2) r3 ((S2.trans S3).rep S1.rel r1)) ?_
  refine Post.elim fun _ h4 tk4 ρ4 _ σ4 k4 S4 _ => ?_
  exact ⟨h4, tk4, ρ4, .next, _, rfl, k4, ((S1.trans S2).trans S3).trans S4, rfl⟩
end
end Mine
end

section -- Fw6
open PySem PySem.W PySem.Calls PyProof.Rows
namespace Mine

section
variable {C : Cx} {σ : St} {K : V → St → Prop}

theorem reps_map {h : Heap} {ρ : Rho} : ∀ {l : List D} {vs : List Value}, Reps h ρ (l.map V.d) vs → RepDs h ρ.gd l vs
  | [], vs, e => by have e : vs = [] := e; subst e; simp [RepDs]
  | x :: l, vs, ⟨v, r, e, h1, h2⟩ => by
    subst e
    simp only [RepDs]
    exact ⟨v, r, rfl, h1, reps_map h2⟩

/-- a fresh list -/
inductive NewPost (C : Cx) (σ : St) (h : Heap) (ρ : Rho) (K : List D → St → Prop) (v' : Value) (s' : Shared) : Prop where
  | mk (h1 h2 : Heap) (tk' : Nat) (ρ' : Rho) (l : List D) (σ' : St) (a : Addr) (vs : Array Value) (n : Nat) (e : s' = C.at h2 tk') (k : K l σ') (S : Step C σ h ρ σ' h1 ρ') (hk : ∀ b o, h1.get? b = some o → h2.get? b = some o) (ha : h1.get? a = none) (ev : v' = .ref a) (hl : IsL h2 a vs n) (hr : RepDs h1 ρ'.gd l vs.toList)
noncomputable def EvF (C : Cx) (e : Expr) (σ : St) (K : List D → St → Prop) : Prop :=
  ∀ h tk ρ (E : Value → Shared → Prop), Rel C σ h ρ → wpAny (model C.prog C.w) C.A (eval e C.env) (NewPost C σ h ρ K) E (C.at h tk)

theorem Ev.frozen {e : Expr} (h : EvF C e σ fun l σ1 => K (.d (.list l)) σ1) : Ev C e σ K := fun hp tk ρ E R => by
  refine mono' (h hp tk ρ E R) ?_
  rintro v' _ ⟨h1, h2, tk', ρ', l, σ', a, vs, n, rfl, k, S, hk, ha, rfl, hl, hr⟩
  have S2 := Step.growG S.rel hk
  refine ⟨h2, tk', _, _, σ', rfl, k, S.trans S2, ?_⟩
  simp only [Rep, RepD]
  exact ⟨a, vs, n, rfl, hl, .inr ⟨ha, _, hl⟩, S2.repDs S.rel hr⟩

noncomputable def St.new (σ : St) (l : List D) : St := { σ with mu := σ.mu ++ [some l] }
noncomputable def Rho.new (ρ : Rho) (a : Addr) : Rho := { ad := ρ.ad ++ [a], gd := ρ.gd }
theorem live_new {l : List D} {ρ : Rho} {a b : Addr} (hlen : ρ.ad.length = σ.mu.length) : Live (σ.new l) (ρ.new a) b ↔ Live σ ρ b ∨ b = a := by
  constructor
  · rintro ⟨k, l', hk, hr⟩
    unfold St.new at hk
    unfold Rho.new at hr
    dsimp only at hk hr
    rcases Nat.lt_trichotomy k σ.mu.length with q | q | q
    · rw [List.getElem?_append_left q] at hk
      rw [List.getElem?_append_left (by lia)] at hr
      exact .inl ⟨k, l', hk, hr⟩
    · rw [List.getElem?_append_right (by lia)] at hr
      have : k - ρ.ad.length = 0 := by lia
      rw [this] at hr
      simp at hr
      exact .inr hr.symm
    · rw [List.getElem?_eq_none (by simp; lia)] at hk; cases hk
  · rintro (⟨k, l', hk, hr⟩ | rfl)
    · refine ⟨k, l', ?_, ?_⟩
      · unfold St.new
        dsimp only
        rw [List.getElem?_append_left (List.getElem?_eq_some_iff.mp hk).1]; exact hk
      · unfold Rho.new
        dsimp only
        rw [List.getElem?_append_left (List.getElem?_eq_some_iff.mp hr).1]; exact hr
    · exact ⟨σ.mu.length, l, by simp [St.new], by unfold Rho.new; dsimp only; rw [← hlen]; simp⟩
theorem ad_new {ρ : Rho} {a b : Addr} {i : Nat} (e : (ρ.new a).ad[i]? = some b) : ρ.ad[i]? = some b ∨ (i = ρ.ad.length ∧ b = a) := by
  unfold Rho.new at e
  dsimp only at e
  rcases Nat.lt_or_ge i ρ.ad.length with q | q
  · rw [List.getElem?_append_left q] at e; exact .inl e
  · have := (List.getElem?_eq_some_iff.mp e).1
    simp at this
    have z : i = ρ.ad.length := by lia
    subst z
    simp at e
    exact .inr ⟨rfl, e.symm⟩
theorem Step.new {h h' : Heap} {ρ : Rho} {a : Addr} {l : List D} {vs : Array Value} {n : Nat} (R : Rel C σ h ρ) (hk : ∀ b o, h.get? b = some o → h'.get? b = some o) (ha : h.get? a = none) (hl : IsL h' a vs n)
    (hr : RepDs h ρ.gd l vs.toList) : Step C σ h ρ (σ.new l) h' (ρ.new a) := by
  obtain ⟨m, RM⟩ := id R
  have LN := fun b => live_new (σ := σ) (l := l) (a := a) (b := b) RM.len
  have ne : ∀ b o, h.get? b = some o → b ≠ a := fun b o e q => by subst q; rw [ha] at e; cases e
  have hL : ∀ b vs n, IsL h b vs n → ρ.gd b → IsL h' b vs n ∧ (ρ.new a).gd b := fun b vs n x y => ⟨hk _ _ x, y⟩
  have hT : ∀ b vs n, IsT h b vs n → ρ.gd b → IsT h' b vs n ∧ (ρ.new a).gd b := fun b vs n x y => ⟨hk _ _ x, y⟩
  have new : ∀ (i : Nat), ρ.ad[i]? ≠ some a := fun i e => by
    obtain ⟨_, _, q⟩ := RM.rin i a e
    cases ha.symm.trans q
  refine ⟨⟨m, by simp [St.new, Rho.new, RM.len], fun i j b hi hj => ?_, fun k l' e => ?_, fun i v e => ?_, RM.ns.keeps hk, fun x c e => ?_, fun b o e => hk _ _ (RM.glob b o e), fun b hb => ?_, fun i b e => ?_, fun b hb g => ?_, fun i b e => ?_, fun b o e => RM.gg b o e, fun b g => let ⟨o, q⟩ := RM.gin b g; ⟨o, hk b o q⟩⟩,
    ⟨[a], rfl⟩, fun b hb => ?_, fun b o e _ _ => hk b o e, fun b g => .inl g, fun b g => g⟩
  · rcases ad_new hi with q1 | ⟨q1, e1⟩ <;> rcases ad_new hj with q2 | ⟨q2, e2⟩
    · exact RM.inj i j b q1 q2
    · exact absurd (e2 ▸ q1) (new i)
    · exact absurd (e1 ▸ q2) (new j)
    · rw [q1, q2]
  · unfold St.new at e
    dsimp only at e
    rcases Nat.lt_or_ge k σ.mu.length with q | q
    · rw [List.getElem?_append_left q] at e
      obtain ⟨b, vs', n', h1, h2, h3⟩ := RM.muts k l' e
      exact ⟨b, vs', n', by unfold Rho.new; dsimp only; rw [List.getElem?_append_left (List.getElem?_eq_some_iff.mp h1).1]; exact h1, hk _ _ h2, RepDs.mono hL hT _ _ h3⟩
    · have := (List.getElem?_eq_some_iff.mp e).1
      simp at this
      have z : k = σ.mu.length := by lia
      subst z
      simp at e
      subst e
      exact ⟨a, vs, n, by unfold Rho.new; dsimp only; rw [← RM.len]; simp, hl, RepDs.mono hL hT _ _ hr⟩
  · obtain ⟨x, c, v', h1, h2, h3⟩ := RM.locs i v e
    refine ⟨x, c, v', h1, ?_, h3.mono hL hT ⟨[a], rfl⟩⟩
    cases c with
    | none => exact h2
    | some c => exact Heap.IsCell.keeps h2 hk
  · obtain ⟨u, hu⟩ := RM.cells x c e
    exact ⟨u, hu.keeps hk⟩
  · rcases (LN b).mp hb with q | q
    · exact RM.liveg b q
    · subst q
      cases hg : C.g.get? b with
      | none => rfl
      | some o => rw [RM.glob _ _ hg] at ha; cases ha
  · rcases ad_new e with q | ⟨q, e1⟩
    · obtain ⟨vs', n', z⟩ := RM.rin i b q
      exact ⟨vs', n', hk _ _ z⟩
    · subst e1; exact ⟨vs, n, hl⟩
  · rcases (LN b).mp hb with q | q
    · exact RM.livegd b q g
    · obtain ⟨o, z⟩ := RM.gin b g
      exact ne b o z q
  · rcases ad_new e with q | ⟨q, e1⟩
    · refine (RM.adg i b q).imp id fun z => (LN b).mpr (.inl z)
    · exact .inr ((LN b).mpr (.inr e1))
  · rcases (LN b).mp hb with q | q
    · exact .inl q
    · subst q; exact .inr ha

theorem Ev.fresh {e : Expr} (h : EvF C e σ fun l σ1 => K (.mu σ1.mu.length) (σ1.new l)) : Ev C e σ K := fun hp tk ρ E R => by
  refine mono' (h hp tk ρ E R) ?_
  rintro v' _ ⟨h1, h2, tk', ρ', l, σ', a, vs, n, rfl, k, S, hk, ha, rfl, hl, hr⟩
  have S2 := Step.new S.rel hk ha hl hr
  refine ⟨h2, tk', _, _, _, rfl, k, S.trans S2, a, ?_, rfl⟩
  obtain ⟨m, RM⟩ := S.rel
  unfold Rho.new
  rw [← RM.len]; simp

theorem EvF.list {K : List D → St → Prop} {es : List Expr} {pos : Pos} (h : EvA C pos es σ fun vs σ1 => ∃ l, vs = l.map V.d ∧ l.length ≤ 1000000 ∧ K l σ1) : EvF C (.List es pos) σ K := fun hp tk ρ E R => by
  refine wpAny_List (mono' (h hp tk ρ E R) ?_)
  refine Post.elim fun vs h1 tk1 ρ1 _ σ1 kk0 S1 r1 => ?_
  obtain ⟨l, rfl, hsz, k1⟩ := kk0
  have r1 := reps_map r1
  have e := r1.length
  refine ⟨by rw [sizeLine_eq]; lia, h1, _, tk1, ρ1, l, σ1, _, vs.toArray, 0, rfl, k1, S1, fun b o q => Heap.get?_push_of_some _ q, Heap.get?_none_of_le (Nat.le_refl _), rfl, IsL.new _ _, r1⟩
theorem EvF.cat {K : List D → St → Prop} {l r : Expr} {pos : Pos} (h : Ev C l σ fun a σ1 => Ev C r σ1 fun b σ2 => ∃ xs ys, ListAt σ2 a xs ∧ ListAt σ2 b ys ∧ xs.length + ys.length ≤ 1000000 ∧ K (xs ++ ys) σ2) : EvF C (.BinOp l .Add r pos) σ K := fun hp tk ρ E R => by
  refine wpAny_BinOp (mono' (h hp tk ρ E R) ?_)
  refine Post.elim fun a' h1 tk1 ρ1 a σ1 k1 S1 r1 => ?_
  refine mono' (k1 h1 tk1 ρ1 E S1.rel) ?_
  refine Post.elim fun b' h2 tk2 ρ2 b σ2 kk0 S2 r2 => ?_
  obtain ⟨xs, ys, L1, L2, hsz, k2⟩ := kk0
  obtain ⟨a1, vs1, n1, rfl, hl1, hr1⟩ := L1.rep S2.rel (S2.rep S1.rel r1)
  obtain ⟨a2, vs2, n2, rfl, hl2, hr2⟩ := L2.rep S2.rel r2
  have e1 : vs1.size = xs.length := by have := hr1.length; simpa using this
  have e2 : vs2.size = ys.length := by have := hr2.length; simpa using this
  refine P.add_list hl1 hl2 ?_ (by rw [sizeLine_eq]; lia)
  exact ⟨h2, _, tk2, ρ2, _, σ2, _, vs1 ++ vs2, 0, rfl, k2, S1.trans S2, fun b o q => Heap.get?_push_of_some _ q, Heap.get?_none_of_le (Nat.le_refl _), rfl, IsL.new _ _, by simpa using hr1.append hr2⟩
theorem rep_fold {α : Type} (v : α) : ∀ (k : Nat) (acc : Array α), (List.foldl (fun x1 x2 => x1 ++ x2) acc (List.replicate k #[v])).toList = acc.toList ++ List.replicate k v
  | 0, acc => by simp
  | k + 1, acc => by
    rw [List.replicate_succ, List.foldl_cons, rep_fold v k]
    simp [List.replicate_succ]
theorem EvF.rep {K : List D → St → Prop} {l r : Expr} {pos : Pos} (h : Ev C l σ fun a σ1 => Ev C r σ1 fun b σ2 => ∃ x i, ListAt σ2 a [x] ∧ b = .d (.int i) ∧ i ≤ 1000000 ∧ -1000000 ≤ i ∧ K (List.replicate i.toNat x) σ2) : EvF C (.BinOp l .Mult r pos) σ K := fun hp tk ρ E R => by
  refine wpAny_BinOp (mono' (h hp tk ρ E R) ?_)
  refine Post.elim fun a' h1 tk1 ρ1 a σ1 k1 S1 r1 => ?_
  refine mono' (k1 h1 tk1 ρ1 E S1.rel) ?_
  refine Post.elim fun b' h2 tk2 ρ2 b σ2 kk0 S2 r2 => ?_
  obtain ⟨x, i, L1, rfl, hi, hi2, k2⟩ := kk0
  obtain ⟨t, rfl⟩ := repI r2
  obtain ⟨a1, vs1, n1, rfl, hl1, hr1⟩ := L1.rep S2.rel (S2.rep S1.rel r1)
  simp only [RepDs] at hr1
  obtain ⟨v, _, hv, rv, rfl⟩ := hr1
  have hv : vs1 = #[v] := by rw [← hv]
  subst hv
  refine wpAny_binaryOp_repeat_ref (T := "list") (U := "int") (by decide) ⟨_, hl1, rfl⟩ (fun s' => typeIs_int s' i t) noFill_list_mul F.fills_int_mul F.slot_int_rmul repeat_list F.slot_int_index.lookup
    (call_meets F.slot_int_rmul (typeIs_int _ i t) F.entry_int_rmul (F.args_int_rmul_2 _ _) (int___rmul___int_list i t a1 #[v] n1)
      ⟨hl1, rfl, ⟨_, hl1, rfl⟩, call_meets F.slot_list_mul ⟨_, hl1, rfl⟩ F.entry_list_mul (F.args_list_mul_2 _ _)
        (AutoListH.list___mul___list_int_3 a1 #[v] n1 i t (by simp [Builtin.List.listFitsIndex]; lia) (by have : (#[v] : Array Value).size = 1 := rfl; rw [this]; lia) (by simp [Builtin.List.listTooLong, sizeLine]; lia))
        ⟨hl1, ?_⟩⟩)
  refine ⟨h2, _, tk2, ρ2, _, σ2, _, _, 0, rfl, k2, S1.trans S2, fun b o q => Heap.get?_push_of_some _ q, Heap.get?_none_of_le (Nat.le_refl _), rfl, IsL.new _ _, ?_⟩
  have := RepDs.replicate rv i.toNat
  simpa [rep_fold] using this

/-- tuples -/
theorem Ev.tup {es : List Expr} {k : Nat} {pos : Pos} (h : EvA C pos es σ fun vs σ1 => ∃ l, vs = l.map V.d ∧ l.length ≤ 1000000 ∧ K (.d (.tup l)) σ1) : Ev C (.Tuple es k pos) σ K := fun hp tk ρ E R => by
  refine wpAny_Tuple (mono' (h hp tk ρ E R) ?_)
  refine Post.elim fun vs h1 tk1 ρ1 _ σ1 kk0 S1 r1 => ?_
  obtain ⟨l, rfl, hsz, k1⟩ := kk0
  have r1 := reps_map r1
  have e := r1.length
  have S2 := Step.growG (h' := h1.push { cls := .type "tuple", data := .seq vs.toArray }) S1.rel fun b o q => Heap.get?_push_of_some _ q
  refine ⟨by rw [sizeLine_eq]; lia, _, tk1, _, _, σ1, rfl, k1, S1.trans S2, ?_⟩
  simp only [Rep, RepD]
  exact ⟨_, vs.toArray, 0, rfl, IsT.new _ _, .inr ⟨Heap.get?_none_of_le (Nat.le_refl _), _, IsT.new _ _⟩, S2.repDs S1.rel r1⟩
end
end Mine
end

section -- Fw7
open PySem PySem.W PySem.Calls PyProof.Rows
namespace Mine

section
variable {C : Cx} {σ : St} {K : Fl → St → Prop}

theorem block_fn (ok : CxOk C) : C.env.blockKind = .function := by
  unfold Env.blockKind
  rw [ok.kind]; rfl

/-- targets that are names, and their places -/
inductive Tg (ns : List Str) : List Expr → List Nat → Prop where
  | nil : Tg ns [] []
  | cons {x : Str} {p : Pos} {es : List Expr} {is : List Nat} (i : Nat) (hx : ns[i]? = some x) (h : Tg ns es is) : Tg ns (.Name x p :: es) (i :: is)
noncomputable def St.setls : St → List Nat → List V → St
  | σ, i :: is, v :: vs => (σ.setl i v).setls is vs
  | σ, _, _ => σ

theorem Reps.step {σ' : St} {h h' : Heap} {ρ ρ' : Rho} {l : List V} {vs : List Value} (R : Rel C σ h ρ) (S : Step C σ h ρ σ' h' ρ') (r : Reps h ρ l vs) : Reps h' ρ' l vs := S.reps R r

theorem stores {E : Value → Shared → Prop} {ns : List Str} (ok : CxOk C) (hn : C.names = ns) : ∀ {es : List Expr} {is : List Nat} {vs : List V} {vs' : List Value} {σ : St} {h : Heap} {tk : Nat} {ρ : Rho}, Tg ns es is → es.length = vs.length →
    Rel C σ h ρ → Reps h ρ vs vs' →
    wpAny (model C.prog C.w) C.A (assignInOrder ((assignEach es C.env).map (·.2)) vs') (fun _ s' => Did C σ h ρ (σ.setls is vs) s') E (C.at h tk)
  | _, _, [], _, σ, h, tk, ρ, .nil, _, R, r => by
    have r : _ = [] := r
    subst r
    exact wpAny_pure ⟨h, tk, rfl, .refl R⟩
  | _, _, v :: vs, _, σ, h, tk, ρ, .cons (x := x) (p := p) i hx ht, hl, R, r => by
    obtain ⟨v', vs', rfl, r1, r2⟩ := r
    obtain ⟨c, hv⟩ := vt_of hn hx
    refine wpAny_bind (wpAny_holding (PyProof.Rows.assign_Name (mono' (store (i := i) ok R hv r1) ?_)))
    refine Did.elim fun _ h1 tk1 S1 => ?_
    refine mono' (stores (E := E) ok hn ht (by simpa using hl) S1.rel (S1.reps R r2)) ?_
    refine Did.elim fun _ h2 tk2 S2 => ?_
    exact ⟨h2, tk2, rfl, S1.trans S2⟩

theorem Tg.len {ns : List Str} : ∀ {es : List Expr} {is : List Nat}, Tg ns es is → (assignEach es C.env).length = es.length ∧ (assignEach es C.env).findIdx? (·.1) = none
  | _, _, .nil => ⟨rfl, rfl⟩
  | _, _, .cons (x := x) (p := p) (es := es) i hx h => by
    obtain ⟨h1, h2⟩ := Tg.len h
    have e : assignEach (.Name x p :: es) C.env = (false, assign (.Name x p) C.env) :: assignEach es C.env := rfl
    rw [e]
    refine ⟨by simp [h1], ?_⟩
    rw [List.findIdx?_cons, h2]; rfl

theorem ext_all {h h' : Heap} (he : Heap.ExtBut h.objs.size h h') : ∀ b o, h.get? b = some o → h'.get? b = some o := fun b o e => he b o (Nat.ne_of_lt (Heap.lt_size e)) e

theorem repds_map {h : Heap} {ρ : Rho} : ∀ {l : List D} {vs : List Value}, RepDs h ρ.gd l vs → Reps h ρ (l.map V.d) vs
  | [], vs, e => by simp only [RepDs] at e; subst e; rfl
  | x :: l, vs, e => by
    simp only [RepDs] at e
    obtain ⟨v, r, rfl, h1, h2⟩ := e
    exact ⟨v, r, rfl, h1, repds_map h2⟩

/-- a, b = value (a tuple or a list of data) -/
inductive SeqD : D → List D → Prop where
  | tup (l : List D) : SeqD (.tup l) l
  | list (l : List D) : SeqD (.list l) l
theorem Ex.untup {ns : List Str} {es : List Expr} {is : List Nat} {k : Nat} {tp pos : Pos} {e : Expr} (ok : CxOk C) (hn : C.names = ns) (ht : Tg ns es is)
    (h : Ev C e σ fun v σ1 => ∃ d l, v = .d d ∧ SeqD d l ∧ l.length = es.length ∧ K .next (σ1.setls is (l.map V.d)))
    (hw : swappedStores [.Tuple es k tp] e C.env = pure none := by rfl)
    (hs : swapsWithSole [.Tuple es k tp] e pos.line C.env = pure false := by rfl) : Ex C (.Assign [.Tuple es k tp] e pos) σ K := fun hp tk ρ E R => by
  refine Assign_Tuple (mono' (h hp tk ρ E R) ?_) hs hw
  refine Post.elim fun v' h1 tk1 ρ1 _ σ1 kk0 S1 r1 => ?_
  obtain ⟨d, l, rfl, hd, hl, k1⟩ := kk0
  show wpAny _ _ (do standAt tp; unpack v' (assignEach es C.env)) _ _ _
  refine wpAny_bind (wpAny_standAt ?_)
  obtain ⟨q1, q2⟩ := ht.len (C := C)
  have fin : ∀ h2 vs', (∀ b o, h1.get? b = some o → h2.get? b = some o) → RepDs h1 ρ1.gd l vs' → wpAny (model C.prog C.w) C.A (assignInOrder ((assignEach es C.env).map (·.2)) vs') (fun _ => Post C σ hp ρ repF K .next) E (C.at h2 tk1) := fun h2 vs' hk rr => by
    have S2 := Step.grow S1.rel hk
    refine mono' (stores (E := E) ok hn ht (by simpa using hl.symm) S2.rel (repds_map (S2.repDs S1.rel rr))) ?_
    refine Did.elim fun _ h3 tk3 S3 => ?_
    exact ⟨h3, tk3, ρ1, .next, _, rfl, k1, (S1.trans S2).trans S3, rfl⟩
  unfold unpack
  rw [q2, q1]
  cases hd with
  | tup =>
    simp only [Rep, RepD] at r1
    obtain ⟨a, vs, n, rfl, hl1, _, hr⟩ := r1
    have e1 : vs.size = l.length := by have := hr.length; simpa using this
    rw [← hl, ← e1]
    exact wpAny_bind (wpAny_holding (wpAny_unpackItems_tuple ok.han ⟨_, hl1, rfl, n, rfl⟩ fun h2 he => fin h2 _ (ext_all he) hr))
  | list =>
    simp only [Rep, RepD] at r1
    obtain ⟨a, vs, n, rfl, hl1, _, hr⟩ := r1
    have e1 : vs.size = l.length := by have := hr.length; simpa using this
    rw [← hl, ← e1]
    exact wpAny_bind (wpAny_holding (kun_itemsOf ok.han hl1.isList fun h2 he => fin h2 _ (ext_all he) hr))

/-- a, b = x, y (the stores exchanged) -/
theorem pos_name (x : Str) (p : Pos) : (Expr.Name x p).pos = p := rfl
theorem swapped_of {ts vs : List Expr} {k k2 : Nat} {tp p2 : Pos} {env : Env} {names : List Str} (h1 : (!(ts.length == 2 || ts.length == 3) || vs.length != ts.length || env.blockKind != .function) = false) (h2 : vs.any isStarred = false)
    (hn : ts.filterMap (fun e => match e with | .Name id pos => if env.kindOf id == some .local && pos.line == ((ts.head?.map (·.pos.line)).getD 0) then some id else none | _ => none) = names)
    (h3 : (names.length != ts.length || names.eraseDups.length != names.length) = false) (h4 : vs.all (foldedForSure 8) = false) (h5 : vs.all (constantsAlone 8) = false) :
    swappedStores [.Tuple ts k tp] (.Tuple vs k2 p2) env = pure (some names) := by
  subst hn
  unfold swappedStores
  have b : ∀ {c : Bool} {t e : Sem (Option (List Str))}, c = false → (if c = true then t else e) = e := fun h => by rw [h]; rfl
  exact (b h1).trans ((b h2).trans ((b h3).trans ((b h4).trans (b h5))))
theorem swapped2 {x y : Str} {p q tp p2 : Pos} {k k2 : Nat} {e1 e2 : Expr} (ok : CxOk C) (hx : C.env.kindOf x = some .local) (hy : C.env.kindOf y = some .local) (hne : (x == y) = false) (hl : (p.line == q.line) = true)
    (h1 : [e1, e2].any isStarred = false) (h2 : [e1, e2].all (foldedForSure 8) = false) (h3 : [e1, e2].all (constantsAlone 8) = false) :
    swappedStores [.Tuple [.Name x p, .Name y q] k tp] (.Tuple [e1, e2] k2 p2) C.env = pure (some [x, y]) := by
  have hq : q.line = p.line := (beq_iff_eq.mp hl).symm
  have hne' : (y == x) = false := by rw [BEq.comm]; exact hne
  refine swapped_of ?_ h1 ?_ ?_ h2 h3
  · show (C.env.blockKind != .function) = false
    rw [block_fn ok]; rfl
  · show List.filterMap _ [_, _] = _
    simp only [List.filterMap_cons, List.filterMap_nil, hx, hy, List.head?_cons, Option.map_some, Option.getD_some, pos_name, hq, BEq.rfl, Bool.and_true, if_true]
  · rw [List.eraseDups_cons, List.filter_cons, hne', List.filter_nil]; rfl
theorem swapped3 {x y z : Str} {p q r tp p2 : Pos} {k k2 : Nat} {e1 e2 e3 : Expr} (ok : CxOk C) (hx : C.env.kindOf x = some .local) (hy : C.env.kindOf y = some .local) (hz : C.env.kindOf z = some .local)
    (hne : (x == y) = false) (hne2 : (x == z) = false) (hne3 : (y == z) = false) (hl : (p.line == q.line) = true) (hl2 : (p.line == r.line) = true)
    (h1 : [e1, e2, e3].any isStarred = false) (h2 : [e1, e2, e3].all (foldedForSure 8) = false) (h3 : [e1, e2, e3].all (constantsAlone 8) = false) :
    swappedStores [.Tuple [.Name x p, .Name y q, .Name z r] k tp] (.Tuple [e1, e2, e3] k2 p2) C.env = pure (some [x, y, z]) := by
  have hq : q.line = p.line := (beq_iff_eq.mp hl).symm
  have hr : r.line = p.line := (beq_iff_eq.mp hl2).symm
  have a1 : (y == x) = false := by rw [BEq.comm]; exact hne
  have a2 : (z == x) = false := by rw [BEq.comm]; exact hne2
  have a3 : (z == y) = false := by rw [BEq.comm]; exact hne3
  refine swapped_of ?_ h1 ?_ ?_ h2 h3
  · show (C.env.blockKind != .function) = false
    rw [block_fn ok]; rfl
  · show List.filterMap _ [_, _, _] = _
    simp only [List.filterMap_cons, List.filterMap_nil, hx, hy, hz, List.head?_cons, Option.map_some, Option.getD_some, pos_name, hq, hr, BEq.rfl, Bool.and_true, if_true]
  · rw [List.eraseDups_cons, List.filter_cons, List.filter_cons, a1, a2, List.filter_nil]
    show (_ || (List.eraseDups [y, z]).length + 1 != 3) = false
    rw [List.eraseDups_cons, List.filter_cons, a3, List.filter_nil]; rfl
theorem unswapped2 {x y : Str} {p q tp p2 : Pos} {k k2 : Nat} {e1 e2 : Expr} (ok : CxOk C) (h1 : [e1, e2].any isStarred = false) (hx : C.env.kindOf x = some .local) (hy : C.env.kindOf y = some .cell) :
    swappedStores [.Tuple [.Name x p, .Name y q] k tp] (.Tuple [e1, e2] k2 p2) C.env = pure none := by
  have b : ∀ {c : Bool} {t e : Sem (Option (List Str))}, c = false → (if c = true then t else e) = e := fun h => by rw [h]; rfl
  unfold swappedStores
  refine (b ?_).trans ((b h1).trans (if_pos ?_))
  · show (C.env.blockKind != .function) = false
    rw [block_fn ok]; rfl
  · show ((List.filterMap _ [_, _]).length != 2 || _) = true
    simp only [List.filterMap_cons, List.filterMap_nil, hx, hy, List.head?_cons, Option.map_some, Option.getD_some, pos_name, BEq.rfl, Bool.and_true, if_true]
    rfl

/-- the stores in reverse -/
theorem stores_rev {E : Value → Shared → Prop} {h : Heap} {tk : Nat} {ρ : Rho} (ok : CxOk C) : ∀ {xs : List Str} {is : List Nat} {vs : List V} {vs' : List Value} {σ : St} {h : Heap} {tk : Nat} {ρ : Rho}, 
    (xs.length = is.length ∧ ∀ j : Nat, ∀ x i, xs[j]? = some x → is[j]? = some i → ∃ c, C.vt[i]? = some (x, c)) → xs.length = vs.length → Rel C σ h ρ → Reps h ρ vs vs' →
    wpAny (model C.prog C.w) C.A (assignInOrder (xs.map fun n => bindName C.env n) vs') (fun _ s' => Did C σ h ρ (σ.setls is vs) s') E (C.at h tk)
  | [], [], [], _, σ, h, tk, ρ, _, _, R, r => by
    have r : _ = [] := r
    subst r
    exact wpAny_pure ⟨h, tk, rfl, .refl R⟩
  | x :: xs, i :: is, v :: vs, _, σ, h, tk, ρ, ⟨hl1, hv⟩, hl, R, r => by
    obtain ⟨v', vs', rfl, r1, r2⟩ := r
    obtain ⟨c, hc⟩ := hv 0 x i rfl rfl
    refine wpAny_bind (wpAny_holding (PyProof.Rows.bindName_ (mono' (store (i := i) ok R hc r1) ?_)))
    refine Did.elim fun _ h1 tk1 S1 => ?_
    refine mono' (stores_rev (E := E) (h := h) (tk := tk) (ρ := ρ) ok (xs := xs) (is := is) ⟨by simpa using hl1, fun j y i' hy hi => hv (j + 1) y i' (by simpa using hy) (by simpa using hi)⟩ (by simpa using hl) S1.rel (S1.reps R r2)) ?_
    refine Did.elim fun _ h2 tk2 S2 => ?_
    exact ⟨h2, tk2, rfl, S1.trans S2⟩
  | [], i :: is, _, _, _, _, _, _, ⟨h, _⟩, _, _, _ => by simp at h
  | x :: xs, [], _, _, _, _, _, _, ⟨h, _⟩, _, _, _ => by simp at h
  | [], [], v :: vs, _, _, _, _, _, _, h, _, _ => by simp at h
  | x :: xs, i :: is, [], _, _, _, _, _, _, h, _, _ => by simp at h

theorem reps_rev {h : Heap} {ρ : Rho} {l : List V} {vs : List Value} (r : Reps h ρ l vs) : Reps h ρ l.reverse vs.reverse := by
  have app : ∀ {l l' : List V} {vs vs' : List Value}, Reps h ρ l vs → Reps h ρ l' vs' → Reps h ρ (l ++ l') (vs ++ vs') := by
    intro l
    induction l with
    | nil => intro l' vs vs' r r'; have r : vs = [] := r; subst r; simpa using r'
    | cons x l ih => rintro l' _ vs' ⟨v, q, rfl, h1, h2⟩ r'; exact ⟨v, _, rfl, h1, ih h2 r'⟩
  revert vs
  induction l with
  | nil => intro vs r; have r : vs = [] := r; subst r; rfl
  | cons x l ih =>
    rintro _ ⟨v, q, rfl, h1, h2⟩
    rw [List.reverse_cons, List.reverse_cons]
    exact app (ih h2) ⟨v, [], rfl, h1, rfl⟩
theorem reps_len {h : Heap} {ρ : Rho} : ∀ {l : List V} {vs : List Value}, Reps h ρ l vs → vs.length = l.length
  | [], vs, e => by have e : vs = [] := e; subst e; rfl
  | x :: l, vs, ⟨v, r, e, h1, h2⟩ => by subst e; simp [reps_len h2]

theorem Ex.swap {ts es : List Expr} {k k2 : Nat} {tp p2 pos : Pos} {xs : List Str} {is : List Nat} (ok : CxOk C)
    (hv : xs.length = is.length ∧ ∀ j : Nat, ∀ x i, xs[j]? = some x → is[j]? = some i → ∃ c, C.vt[i]? = some (x, c))
    (hw : swappedStores [.Tuple ts k tp] (.Tuple es k2 p2) C.env = pure (some xs))
    (h : EvA C p2 es σ fun vs σ1 => vs.length = xs.length ∧ xs.length ≤ 1000 ∧ K .next (σ1.setls is.reverse vs.reverse))
    (hs : swapsWithSole [.Tuple ts k tp] (.Tuple es k2 p2) pos.line C.env = pure false := by rfl) : Ex C (.Assign [.Tuple ts k tp] (.Tuple es k2 p2) pos) σ K := fun hp tk ρ E R => by
  refine Assign_Tuple_swapped (names := xs) (wpAny_Tuple (mono' (h hp tk ρ E R) ?_)) hs hw
  refine Post.elim fun vs h1 tk1 ρ1 vl σ1 kk0 S1 r1 => ?_
  obtain ⟨hl, hsz, k1⟩ := kk0
  have e1 := reps_len r1
  refine ⟨by rw [sizeLine_eq]; lia, ?_⟩
  have S2 : Step C σ1 h1 ρ1 σ1 (h1.push { cls := .type "tuple", data := .seq vs.toArray }) ρ1 := .grow S1.rel fun b o q => Heap.get?_push_of_some _ q
  have hT : (h1.push { cls := .type "tuple", data := .seq vs.toArray }).IsTuple h1.objs.size vs.toArray := ⟨_, Heap.get?_push_size _ rfl, rfl, 0, rfl⟩
  have e2 : xs.length = vs.toArray.size := by simp; lia
  rw [e2]
  refine wpAny_unpackItems_tuple ok.han hT fun h2 he => ?_
  have S3 := Step.grow S2.rel (ext_all he)
  refine mono' (stores_rev (E := E) (h := h1) (tk := tk) (ρ := ρ) ok (xs := xs.reverse) (is := is.reverse) ⟨by simp [hv.1], fun j x i hx hi => ?_⟩ (by simp [hl]) S3.rel (reps_rev (S3.reps S2.rel (S2.reps S1.rel r1)))) ?_
  · have hj : j < xs.length := by have := (List.getElem?_eq_some_iff.mp hx).1; simpa using this
    rw [List.getElem?_reverse hj] at hx
    rw [List.getElem?_reverse (by rw [← hv.1]; exact hj)] at hi
    rw [← hv.1] at hi
    exact hv.2 _ x i hx hi
  · refine Did.elim fun _ h3 tk3 S4 => ?_
    exact ⟨h3, tk3, ρ1, .next, _, rfl, k1, ((S1.trans S2).trans S3).trans S4, rfl⟩

theorem Ex.swap2 {ns : List Str} {x y : Str} {p q tp p2 pos : Pos} {k k2 : Nat} {e1 e2 : Expr} (i j : Nat) (ok : CxOk C) (hn : C.names = ns) (hi : ns[i]? = some x) (hj : ns[j]? = some y)
    (hx : C.env.kindOf x = some .local) (hy : C.env.kindOf y = some .local)
    (h : EvA C p2 [e1, e2] σ fun vs σ1 => ∃ v1 v2, vs = [v1, v2] ∧ K .next ((σ1.setl j v2).setl i v1))
    (hne : (x == y) = false := by decide) (hl : (p.line == q.line) = true := by rfl)
    (h1 : [e1, e2].any isStarred = false := by rfl) (h2 : [e1, e2].all (foldedForSure 8) = false := by rfl) (h3 : [e1, e2].all (constantsAlone 8) = false := by rfl) :
    Ex C (.Assign [.Tuple [.Name x p, .Name y q] k tp] (.Tuple [e1, e2] k2 p2) pos) σ K := by
  refine Ex.swap (is := [i, j]) ok ⟨rfl, fun n z m hz hm => ?_⟩ (swapped2 ok hx hy hne hl h1 h2 h3) (h.mono ?_)
  · rcases n with _ | _ | n
    · cases hz; cases hm; exact vt_of hn hi
    · cases hz; cases hm; exact vt_of hn hj
    · simp at hz
  · rintro vs σ1 ⟨v1, v2, rfl, k⟩
    exact ⟨rfl, by simp, k⟩
theorem Ex.swap3 {ns : List Str} {x y z : Str} {p q r tp p2 pos : Pos} {k k2 : Nat} {e1 e2 e3 : Expr} (i j l : Nat) (ok : CxOk C) (hn : C.names = ns) (hi : ns[i]? = some x) (hj : ns[j]? = some y) (hk : ns[l]? = some z)
    (hx : C.env.kindOf x = some .local) (hy : C.env.kindOf y = some .local) (hz : C.env.kindOf z = some .local)
    (h : EvA C p2 [e1, e2, e3] σ fun vs σ1 => ∃ v1 v2 v3, vs = [v1, v2, v3] ∧ K .next (((σ1.setl l v3).setl j v2).setl i v1))
    (hne : (x == y) = false := by decide) (hne2 : (x == z) = false := by decide) (hne3 : (y == z) = false := by decide) (hl : (p.line == q.line) = true := by rfl) (hl2 : (p.line == r.line) = true := by rfl)
    (h1 : [e1, e2, e3].any isStarred = false := by rfl) (h2 : [e1, e2, e3].all (foldedForSure 8) = false := by rfl) (h3 : [e1, e2, e3].all (constantsAlone 8) = false := by rfl) :
    Ex C (.Assign [.Tuple [.Name x p, .Name y q, .Name z r] k tp] (.Tuple [e1, e2, e3] k2 p2) pos) σ K := by
  refine Ex.swap (is := [i, j, l]) ok ⟨rfl, fun n w m hw hm => ?_⟩ (swapped3 ok hx hy hz hne hne2 hne3 hl hl2 h1 h2 h3) (h.mono ?_)
  · rcases n with _ | _ | _ | n
    · cases hw; cases hm; exact vt_of hn hi
    · cases hw; cases hm; exact vt_of hn hj
    · cases hw; cases hm; exact vt_of hn hk
    · simp at hw
  · rintro vs σ1 ⟨v1, v2, v3, rfl, k⟩
    exact ⟨rfl, by simp, k⟩
end
end Mine
end

section -- Fw8
open PySem PySem.W PySem.Calls PyProof.Rows
namespace Mine

section
variable {C : Cx} {σ : St}

/-- while -/
noncomputable def loopK (K : Fl → St → Prop) (G : St → Prop) (f : Fl) (σ : St) : Prop := match f with
  | .next => G σ
  | .cont => G σ
  | .brk => K .next σ
  | .ret v => K (.ret v) σ
theorem Ex.while {K : Fl → St → Prop} {t : Expr} {b : List Stmt} {pos : Pos} (I : Nat → St → Prop) (n : Nat) (h0 : I n σ)
    (turn : ∀ n σ1, I n σ1 → EvB C t σ1 fun c σ2 => (c = true → Exs C b σ2 (loopK K fun σ3 => ∃ m, m < n ∧ I m σ3)) ∧ (c = false → K .next σ2)) : Ex C (.While t b [] pos) σ K := fun hp tk ρ E R => by
  refine wpAny_While (codeAny_whileLoop (fun n s => ∃ h1 tk1 ρ1 σ1, s = C.at h1 tk1 ∧ I n σ1 ∧ Step C σ hp ρ σ1 h1 ρ1) ?_ n ⟨hp, tk, ρ, σ, rfl, h0, .refl R⟩)
  rintro n _ ⟨h1, tk1, ρ1, σ1, rfl, hI, S1⟩
  refine mono' (turn n σ1 hI h1 tk1 ρ1 _ S1.rel) ?_
  refine Post.elim fun c h2 tk2 ρ2 c' σ2 k2 S2 r2 => ?_
  have r2 : c = c' := r2
  subst r2
  cases c with
  | true =>
    simp only [if_true]
    refine mono' (k2.1 rfl h2 tk2 ρ2 _ S2.rel) ?_
    refine Post.elim fun f' h3 tk3 ρ3 f σ3 k3 S3 r3 => ?_
    have S := (S1.trans S2).trans S3
    cases f with
    | next => have r3 : f' = .next := r3; subst r3; obtain ⟨m, hm, hI⟩ := k3; exact ⟨m, hm, h3, tk3, ρ3, σ3, rfl, hI, S⟩
    | cont => have r3 : f' = .cont := r3; subst r3; obtain ⟨m, hm, hI⟩ := k3; exact ⟨m, hm, h3, tk3, ρ3, σ3, rfl, hI, S⟩
    | brk => have r3 : f' = .brk := r3; subst r3; exact ⟨h3, tk3, ρ3, .next, σ3, rfl, k3, S, rfl⟩
    | ret v => obtain ⟨v', rfl, r3⟩ := r3; exact ⟨h3, tk3, ρ3, .ret v, σ3, rfl, k3, S, v', rfl, r3⟩
  | false =>
    simp only [Bool.false_eq_true, if_false]
    exact wpAny_execs_nil ⟨h2, tk2, ρ2, .next, σ2, rfl, k2.2 rfl, S1.trans S2, rfl⟩

/-- something to walk along -/
structure It (C : Cx) (σ2 : St) (hm h2 : Heap) (ρ2 : Rho) (I : Addr) (items : List D) (fp wr : List Addr) (P : Nat → Value → Prop) (S : Nat → Heap → Prop) : Prop where
  W : Walks C.prog C.w C.A I fp wr items.length P S
  st : S 0 h2
  fresh : ∀ b ∈ wr, hm.get? b = none
  ex : ∀ i h, S i h → ∀ b ∈ fp, ∃ o, h.get? b = some o
  own : ∀ b ∈ fp, ¬ Own C b
  live : ∀ b ∈ fp, ¬ Live σ2 ρ2 b
  good : ∀ b ∈ wr, ¬ ρ2.gd b
  rep : ∀ i v, i < items.length → P i v → ∃ x, items[i]? = some x ∧ RepD hm ρ2.gd x v
inductive ItPost (C : Cx) (σ : St) (h : Heap) (ρ : Rho) (K : List D → St → Prop) (it : Value) (s2 : Shared) : Prop where
  | mk (hm h2 : Heap) (tk2 : Nat) (ρ2 : Rho) (σ2 : St) (items : List D) (I : Addr) (fp wr : List Addr) (P : Nat → Value → Prop) (S : Nat → Heap → Prop) (e : s2 = C.at h2 tk2) (k : K items σ2) (S2 : Step C σ h ρ σ2 hm ρ2) (hk : ∀ b o, hm.get? b = some o → h2.get? b = some o) (ei : it = .ref I) (T : It C σ2 hm h2 ρ2 I items fp wr P S)
noncomputable def EvI (C : Cx) (iter : Expr) (σ : St) (K : List D → St → Prop) : Prop :=
  ∀ h tk ρ (E : Value → Shared → Prop), Rel C σ h ρ → wpAny (model C.prog C.w) C.A (eval iter C.env) (fun x s1 => wpAny (model C.prog C.w) C.A (pyIter x) (ItPost C σ h ρ K) E s1) E (C.at h tk)

theorem EvI.list {K : List D → St → Prop} {iter : Expr} (ok : CxOk C) (h : Ev C iter σ fun v σ1 => ∃ l, v = .d (.list l) ∧ K l σ1) : EvI C iter σ K := fun hp tk ρ E R => by
  refine mono' (h hp tk ρ E R) ?_
  refine Post.elim fun v' h1 tk1 ρ1 _ σ1 kk0 S1 r1 => ?_
  obtain ⟨l, rfl, k1⟩ := kk0
  simp only [Rep, RepD] at r1
  obtain ⟨a, vs, n, rfl, hl, nl, hr⟩ := r1
  have e : vs.size = l.length := by have := hr.length; simpa using this
  refine wpAny_pyIter_list hl.isList ?_
  have hk : ∀ b o, h1.get? b = some o → (h1.push { cls := .type "list_iterator", data := .fields #[.ref a, .int 0 0] }).get? b = some o := fun b o q => Heap.get?_push_of_some _ q
  have hne : a ≠ h1.objs.size := Nat.ne_of_lt (Heap.lt_size hl)
  have W := Walks.list (prog := C.prog) (w := C.w) ok.han h1.objs.size a hne vs
  refine ⟨h1, _, tk1, ρ1, σ1, l, _, _, _, _, _, rfl, k1, S1, hk, rfl, ⟨e ▸ W, ?_, ?_, ?_, ?_, ?_, ?_, ?_⟩⟩
  · exact ⟨⟨_, Heap.get?_push_size _ rfl, rfl, rfl⟩, (hl.push _).isList⟩
  · intro b hb; simp at hb; subst hb; exact Heap.get?_none_of_le (Nat.le_refl _)
  · rintro i h ⟨⟨o, ho, _⟩, ⟨o2, ho2, _⟩⟩ b hb
    simp at hb
    rcases hb with rfl | rfl
    · exact ⟨o, ho⟩
    · exact ⟨o2, ho2⟩
  · intro b hb ho
    simp at hb
    rcases hb with rfl | rfl
    · obtain ⟨o, ho, _⟩ := own_obj S1.rel ho
      exact Nat.lt_irrefl _ (Heap.lt_size ho)
    · exact not_own_L S1.rel hl rfl ho
  · intro b hb ho
    simp at hb
    rcases hb with rfl | rfl
    · obtain ⟨_, _, ho⟩ := live_obj S1.rel ho
      exact Nat.lt_irrefl _ (Heap.lt_size ho)
    · exact gd_not_live S1.rel nl ho
  · intro b hb g
    simp at hb; subst hb
    obtain ⟨m, RM⟩ := S1.rel
    obtain ⟨o, g⟩ := RM.gin _ g
    exact Nat.lt_irrefl _ (Heap.lt_size g)
  · intro i v hi hv
    exact hr.get' (by simpa using hv)
theorem EvI.tup {K : List D → St → Prop} {iter : Expr} (ok : CxOk C) (h : Ev C iter σ fun v σ1 => ∃ l, v = .d (.tup l) ∧ K l σ1) : EvI C iter σ K := fun hp tk ρ E R => by
  refine mono' (h hp tk ρ E R) ?_
  refine Post.elim fun v' h1 tk1 ρ1 _ σ1 kk0 S1 r1 => ?_
  obtain ⟨l, rfl, k1⟩ := kk0
  simp only [Rep, RepD] at r1
  obtain ⟨a, vs, n, rfl, hl, nl, hr⟩ := r1
  have e : vs.size = l.length := by have := hr.length; simpa using this
  have hT : h1.IsTuple a vs := ⟨_, hl, rfl, n, rfl⟩
  refine wpAny_pyIter_tuple hT ?_
  have hk : ∀ b o, h1.get? b = some o → (h1.push { cls := .type "tuple_iterator", data := .fields #[.ref a, .int 0 0] }).get? b = some o := fun b o q => Heap.get?_push_of_some _ q
  have hne : a ≠ h1.objs.size := Nat.ne_of_lt (Heap.lt_size hl)
  have W := Walks.tuple (prog := C.prog) (w := C.w) ok.han h1.objs.size a hne vs
  refine ⟨h1, _, tk1, ρ1, σ1, l, _, _, _, _, _, rfl, k1, S1, hk, rfl, ⟨e ▸ W, ?_, ?_, ?_, ?_, ?_, ?_, ?_⟩⟩
  · exact ⟨⟨_, Heap.get?_push_size _ rfl, rfl, rfl⟩, hT.push _⟩
  · intro b hb; simp at hb; subst hb; exact Heap.get?_none_of_le (Nat.le_refl _)
  · rintro i h ⟨⟨o, ho, _⟩, ⟨o2, ho2, _⟩⟩ b hb
    simp at hb
    rcases hb with rfl | rfl
    · exact ⟨o, ho⟩
    · exact ⟨o2, ho2⟩
  · intro b hb ho
    simp at hb
    rcases hb with rfl | rfl
    · obtain ⟨o, ho, _⟩ := own_obj S1.rel ho
      exact Nat.lt_irrefl _ (Heap.lt_size ho)
    · exact not_own_L S1.rel hl rfl ho
  · intro b hb ho
    simp at hb
    rcases hb with rfl | rfl
    · obtain ⟨_, _, ho⟩ := live_obj S1.rel ho
      exact Nat.lt_irrefl _ (Heap.lt_size ho)
    · exact gd_not_live S1.rel nl ho
  · intro b hb g
    simp at hb; subst hb
    obtain ⟨m, RM⟩ := S1.rel
    obtain ⟨o, g⟩ := RM.gin _ g
    exact Nat.lt_irrefl _ (Heap.lt_size g)
  · intro i v hi hv
    exact hr.get' (by simpa using hv)

/-- a call, whatever comes of it -/
theorem call_gen {func e : Expr} {es : List Expr} {pos : Pos} {G : Value → List V → St → Prop} {Q : Value → Shared → Prop} {E : Value → Shared → Prop} {h : Heap} {tk : Nat} {ρ : Rho} (R : Rel C σ h ρ)
    (hf : Ev C func σ fun f σ1 => ∃ f', f = .d (.val f') ∧ Fun C.g f' ∧ EvA C pos (e :: es) σ1 fun vs σ2 => G f' vs σ2)
    (hG : ∀ f' vs σ2 h2 tk2 ρ2 vs', G f' vs σ2 → Step C σ h ρ σ2 h2 ρ2 → Reps h2 ρ2 vs vs' → wpAny (model C.prog C.w) C.A (PySem.call f' vs') Q E (C.at h2 tk2))
    (hst : starEach (e :: es) C.env = (false, eval e C.env) :: starEach es C.env)
    (hplain : (backTo pos (starEach es C.env)).any (·.1) = false)
    (he : eval (.Call func (e :: es) [] pos) C.env = (do callWith pos (← eval func C.env) [] (backTo pos (starEach (e :: es) C.env)) [])) :
    wpAny (model C.prog C.w) C.A (eval (.Call func (e :: es) [] pos) C.env) Q E (C.at h tk) := by
  rw [he]
  refine wpAny_bind (mono' (hf h tk ρ E R) ?_)
  refine Post.elim fun f' h1 tk1 ρ1 f σ1 kk0 S1 r1 => ?_
  obtain ⟨f'', rfl, hfun, k1⟩ := kk0
  have r1 : f' = f'' := by simpa only [Rep, RepD] using r1
  subst r1
  have args : wpAny (model C.prog C.w) C.A (spliced (backTo pos (starEach (e :: es) C.env))) (fun vs s₂ => (∃ h2 tk2, s₂ = C.at h2 tk2 ∧ ∀ b o, C.g.get? b = some o → h2.get? b = some o) ∧ wpAny (model C.prog C.w) C.A (PySem.call f' vs) Q E s₂) E (C.at h1 tk1) := by
    refine mono' (k1 h1 tk1 ρ1 E S1.rel) ?_
    refine Post.elim fun vs h2 tk2 ρ2 b σ2 k2 S2 r2 => ?_
    refine ⟨⟨h2, tk2, rfl, ?_⟩, hG f' b σ2 h2 tk2 ρ2 vs k2 (S1.trans S2) r2⟩
    obtain ⟨m, RM⟩ := S2.rel
    exact RM.glob
  have pl : (backTo pos (starEach (e :: es) C.env)).any (·.1) = false := by rw [hst]; exact hplain
  cases hfun with
  | builtin id =>
    refine callWith_builtin pl ?_
    rw [hst] at args ⊢
    exact evalArgs_plain (mono' args fun _ _ x => x.2)
  | type T =>
    refine PyProof.Rows.callWith_type pl ?_
    rw [hst] at args ⊢
    exact evalArgs_plain (mono' args fun _ _ x => x.2)
  | fn a o fd ho hd =>
    refine callWith_function (o := o) (fd := fd) ?_
    rw [hst] at args ⊢
    refine evalArgs_plain (mono' args fun vs s x => ?_)
    obtain ⟨⟨h2, tk2, rfl, hg⟩, x⟩ := x
    exact ⟨⟨hg a o ho, hd⟩, x⟩

noncomputable def rangeD (a c : Int) (n : Nat) : List D := (List.range n).map fun (i : Nat) => D.int (a + (i : Int) * c)
theorem range_it {h h2 : Heap} {ρ : Rho} {σ2 : St} {hm : Heap} {tk2 : Nat} {ρ2 : Rho} {E : Value → Shared → Prop} {K : List D → St → Prop} {r : Addr} {a b c : Int} {t u v : Tok} (ok : CxOk C) (S : Step C σ h ρ σ2 hm ρ2)
    (hk : ∀ b o, hm.get? b = some o → h2.get? b = some o) (hr : IsRange h2 r a b c t u v) (hs : Builtin.Range.small a b c = true) {n : Nat} (hn : Builtin.Range.rangeSize a b c = n) (k : K (rangeD a c n) σ2) :
    wpAny (model C.prog C.w) C.A (pyIter (.ref r)) (ItPost C σ h ρ K) E (C.at h2 tk2) := by
  refine wpAny_pyIter_range hr hs ?_
  have hk2 : ∀ b' o, h2.get? b' = some o → (h2.push { cls := .type "range_iterator", data := .fields #[rawInt a, rawInt (Builtin.Range.rangeSize a b c), rawInt c] }).get? b' = some o := fun b' o q => Heap.get?_push_of_some _ q
  have fresh : hm.get? h2.objs.size = none := by
    cases q : hm.get? h2.objs.size with
    | none => rfl
    | some o => exact absurd (Heap.lt_size (hk _ _ q)) (Nat.lt_irrefl _)
  have W := Walks.range (prog := C.prog) (w := C.w) ok.han h2.objs.size a c n
  refine ⟨hm, _, tk2, ρ2, σ2, rangeD a c n, _, _, _, _, _, rfl, k, S, fun b o q => hk2 b o (hk b o q), rfl, ⟨by rw [show (rangeD a c n).length = n by simp [rangeD]]; exact W, ?_, ?_, ?_, ?_, ?_, ?_, ?_⟩⟩
  · show IsRangeIter _ _ _ _ _
    rw [hn]
    unfold IsRangeIter
    rw [Heap.get?_push_size _ rfl]
    simp
  · intro b hb; simp at hb; subst hb; exact fresh
  · intro i h hi b hb; simp at hb; subst hb; exact ⟨_, hi⟩
  · intro b hb ho
    simp at hb; subst hb
    obtain ⟨o, ho, _⟩ := own_obj S.rel ho
    rw [fresh] at ho; cases ho
  · intro b hb ho
    simp at hb; subst hb
    obtain ⟨_, _, ho⟩ := live_obj S.rel ho
    cases fresh.symm.trans ho
  · intro b hb g
    simp at hb; subst hb
    obtain ⟨m, RM⟩ := S.rel
    obtain ⟨o, g⟩ := RM.gin _ g
    rw [fresh] at g; cases g
  · intro i v hi hv
    obtain ⟨t, rfl⟩ := hv
    have hi' : i < n := by simpa [rangeD] using hi
    exact ⟨.int (a + i * c), by simp [rangeD, hi'], by simp only [RepD]; exact ⟨t, rfl⟩⟩

theorem small_up {a b : Int} (ha : -1000000 ≤ a) (ha2 : a ≤ 1000000) (hb : b ≤ 1000000) (hb2 : -1000000 ≤ b) : Builtin.Range.small a b 1 = true ∧ Builtin.Range.rangeSize a b 1 = ((b - a).toNat : Nat) := by
  have e := rangeSize_one a b
  refine ⟨?_, by rw [e]; split <;> lia⟩
  unfold Builtin.Range.small
  rw [e]
  simp [Builtin.Range.rangeFitsLong]
  split <;> (omega)
theorem EvI.range1 {K : List D → St → Prop} {func e : Expr} {pos : Pos} (ok : CxOk C)
    (h : Ev C func σ fun f σ1 => f = .d (.val (.type "range")) ∧ EvA C pos [e] σ1 fun vs σ2 => ∃ n, vs = [.d (.int n)] ∧ n ≤ 1000000 ∧ -1000000 ≤ n ∧ K (rangeD 0 1 n.toNat) σ2)
    (hst : starEach [e] C.env = (false, eval e C.env) :: starEach [] C.env := by rfl)
    (he : eval (.Call func [e] [] pos) C.env = (do callWith pos (← eval func C.env) [] (backTo pos (starEach [e] C.env)) []) := by rfl) : EvI C (.Call func [e] [] pos) σ K := fun hp tk ρ E R => by
  refine call_gen (G := fun f' vs σ2 => f' = .type "range" ∧ ∃ n, vs = [.d (.int n)] ∧ n ≤ 1000000 ∧ -1000000 ≤ n ∧ K (rangeD 0 1 n.toNat) σ2) R (h.mono ?_) ?_ hst rfl he
  · rintro f σ1 ⟨rfl, k⟩
    exact ⟨_, rfl, .type _, k.mono fun vs σ2 x => ⟨rfl, x⟩⟩
  · rintro f' vs σ2 h2 tk2 ρ2 vs' ⟨rfl, n, rfl, n1, n2, k⟩ S r
    obtain ⟨v, rfl, r1⟩ := reps1 r
    obtain ⟨t, rfl⟩ := repI r1
    refine call_range_1 ?_
    obtain ⟨q1, q2⟩ := small_up (a := 0) (b := n) (by lia) (by lia) n1 n2
    exact range_it ok S (fun b o q => Heap.get?_push_of_some _ q) (IsRange.new ..) q1 q2 (by simpa using k)
theorem EvI.range2 {K : List D → St → Prop} {func e e' : Expr} {pos : Pos} (ok : CxOk C)
    (h : Ev C func σ fun f σ1 => f = .d (.val (.type "range")) ∧ EvA C pos [e, e'] σ1 fun vs σ2 => ∃ a n, vs = [.d (.int a), .d (.int n)] ∧ n ≤ 1000000 ∧ -1000000 ≤ n ∧ a ≤ 1000000 ∧ -1000000 ≤ a ∧ K (rangeD a 1 (n - a).toNat) σ2)
    (hst : starEach [e, e'] C.env = (false, eval e C.env) :: starEach [e'] C.env := by rfl) (hplain : (backTo pos (starEach [e'] C.env)).any (·.1) = false := by rfl)
    (he : eval (.Call func [e, e'] [] pos) C.env = (do callWith pos (← eval func C.env) [] (backTo pos (starEach [e, e'] C.env)) []) := by rfl) : EvI C (.Call func [e, e'] [] pos) σ K := fun hp tk ρ E R => by
  refine call_gen (G := fun f' vs σ2 => f' = .type "range" ∧ ∃ a n, vs = [.d (.int a), .d (.int n)] ∧ n ≤ 1000000 ∧ -1000000 ≤ n ∧ a ≤ 1000000 ∧ -1000000 ≤ a ∧ K (rangeD a 1 (n - a).toNat) σ2) R (h.mono ?_) ?_ hst hplain he
  · rintro f σ1 ⟨rfl, k⟩
    exact ⟨_, rfl, .type _, k.mono fun vs σ2 x => ⟨rfl, x⟩⟩
  · rintro f' vs σ2 h2 tk2 ρ2 vs' ⟨rfl, a, n, rfl, n1, n2, n3, n4, k⟩ S r
    obtain ⟨v, v2, rfl, r1, r2⟩ := reps2 r
    obtain ⟨t, rfl⟩ := repI r1
    obtain ⟨t2, rfl⟩ := repI r2
    refine call_range_2 ?_
    obtain ⟨q1, q2⟩ := small_up (a := a) (b := n) n4 n3 n1 n2
    exact range_it ok S (fun b o q => Heap.get?_push_of_some _ q) (IsRange.new ..) q1 q2 k
theorem reps3 {h : Heap} {ρ : Rho} {x y z : V} {vs : List Value} (r : Reps h ρ [x, y, z] vs) : ∃ v u t, vs = [v, u, t] ∧ Rep h ρ x v ∧ Rep h ρ y u ∧ Rep h ρ z t := by
  obtain ⟨v, _, rfl, h1, u, _, rfl, h2, t, _, rfl, h3, rfl⟩ := r; exact ⟨v, u, t, rfl, h1, h2, h3⟩
theorem rangeSize_down (a : Int) : Builtin.Range.rangeSize a (-1) (-1) = ((a + 1).toNat : Nat) := by
  unfold Builtin.Range.rangeSize
  rw [if_neg (by decide)]
  split
  · rw [show -(-1 : Int) = 1 from rfl, Int.ediv_one]; lia
  · lia
theorem small_down {a : Int} (ha : -1 ≤ a) (ha2 : a ≤ 1000000) : Builtin.Range.small a (-1) (-1) = true := by
  unfold Builtin.Range.small
  rw [rangeSize_down]
  simp [Builtin.Range.rangeFitsLong]
  lia
/-- range(a, -1, -1) -/
theorem EvI.rangeDown {K : List D → St → Prop} {func e e' e'' : Expr} {pos : Pos} (ok : CxOk C)
    (h : Ev C func σ fun f σ1 => f = .d (.val (.type "range")) ∧ EvA C pos [e, e', e''] σ1 fun vs σ2 => ∃ a, vs = [.d (.int a), .d (.int (-1)), .d (.int (-1))] ∧ a ≤ 1000000 ∧ -1 ≤ a ∧ K (rangeD a (-1) (a + 1).toNat) σ2)
    (hst : starEach [e, e', e''] C.env = (false, eval e C.env) :: starEach [e', e''] C.env := by rfl) (hplain : (backTo pos (starEach [e', e''] C.env)).any (·.1) = false := by rfl)
    (he : eval (.Call func [e, e', e''] [] pos) C.env = (do callWith pos (← eval func C.env) [] (backTo pos (starEach [e, e', e''] C.env)) []) := by rfl) : EvI C (.Call func [e, e', e''] [] pos) σ K := fun hp tk ρ E R => by
  refine call_gen (G := fun f' vs σ2 => f' = .type "range" ∧ ∃ a, vs = [.d (.int a), .d (.int (-1)), .d (.int (-1))] ∧ a ≤ 1000000 ∧ -1 ≤ a ∧ K (rangeD a (-1) (a + 1).toNat) σ2) R (h.mono ?_) ?_ hst hplain he
  · rintro f σ1 ⟨rfl, k⟩
    exact ⟨_, rfl, .type _, k.mono fun vs σ2 x => ⟨rfl, x⟩⟩
  · rintro f' vs σ2 h2 tk2 ρ2 vs' ⟨rfl, a, rfl, n1, n2, k⟩ S r
    obtain ⟨v, v2, v3, rfl, r1, r2, r3⟩ := reps3 r
    obtain ⟨t, rfl⟩ := repI r1
    obtain ⟨t2, rfl⟩ := repI r2
    obtain ⟨t3, rfl⟩ := repI r3
    refine call_range_3 (by decide) ?_ (.inl (PyProof.noPylong_small (by decide)))
    exact range_it ok S (fun b o q => Heap.get?_push_of_some _ q) (IsRange.new ..) (small_down n2 n1) (rangeSize_down a) k
end
end Mine
end

section -- Fw9
open PySem PySem.W PySem.Calls PyProof.Rows
namespace Mine

section
variable {C : Cx} {σ : St}

/-- a walk under way -/
structure Inv (C : Cx) (σ2 : St) (hm : Heap) (ρ2 : Rho) (fp wr : List Addr) (S : Nat → Heap → Prop) (j : Nat) (σj : St) (hj : Heap) (ρj : Rho) : Prop where
  step : Step C σ2 hm ρ2 σj hj ρj
  st : S j hj
  live : ∀ b ∈ fp, ¬ Live σj ρj b
  good : ∀ b ∈ wr, ¬ ρj.gd b

section
variable {σ2 : St} {hm : Heap} {ρ2 : Rho} {fp wr : List Addr} {S : Nat → Heap → Prop} {j : Nat} {σj : St} {hj : Heap} {ρj : Rho}
/-- the frame's own step -/
theorem Inv.next {σ' : St} {h' : Heap} {ρ' : Rho} (V : Inv C σ2 hm ρ2 fp wr S j σj hj ρj) (sub : ∀ b ∈ wr, b ∈ fp) (frame : ∀ i h h', S i h → (∀ b ∈ fp, ∀ o, h.get? b = some o → h'.get? b = some o) → S i h')
    (ex : ∀ i h, S i h → ∀ b ∈ fp, ∃ o, h.get? b = some o) (own : ∀ b ∈ fp, ¬ Own C b) (T : Step C σj hj ρj σ' h' ρ') : Inv C σ2 hm ρ2 fp wr S j σ' h' ρ' := by
  refine ⟨V.step.trans T, frame j _ _ V.st fun b hb o e => T.keep b o e (own b hb) (V.live b hb), fun b hb l => ?_, fun b hb g => ?_⟩
  · rcases T.live b l with q | q
    · exact V.live b hb q
    · obtain ⟨o, z⟩ := ex j hj V.st b hb
      rw [z] at q; cases q
  · rcases T.gd b g with q | q | q
    · exact V.good b hb q
    · exact V.live b (sub b hb) q
    · obtain ⟨o, z⟩ := ex j hj V.st b (sub b hb)
      rw [z] at q; cases q
/-- the iterator's step -/
theorem Inv.hid {h' : Heap} (V : Inv C σ2 hm ρ2 fp wr S j σj hj ρj) (sub : ∀ b ∈ wr, b ∈ fp) (fresh : ∀ b ∈ wr, hm.get? b = none) (own : ∀ b ∈ fp, ¬ Own C b)
    (hk : ∀ b o, b ∉ wr → hj.get? b = some o → h'.get? b = some o) (R2 : Rel C σ2 hm ρ2) : Step C σ2 hm ρ2 σj h' ρj := by
  refine ⟨?_, V.step.ext, V.step.live, fun b o e no nl => hk b o (fun q => ?_) (V.step.keep b o e no nl), V.step.gd, V.step.gm⟩
  · refine V.step.rel.move rfl (fun _ x => x) (fun _ x => .inl x) fun b o e q => hk b o (fun z => ?_) e
    rcases q with q | q | q | q
    · exact V.good b z q
    · exact V.live b (sub b z) q
    · exact own b (sub b z) q
    · obtain ⟨m, RM⟩ := R2
      have := RM.glob b o q
      rw [fresh b z] at this; cases this
  · rw [fresh b q] at e; cases e
theorem Inv.turn {i : Nat} {h' : Heap} (V : Inv C σ2 hm ρ2 fp wr S j σj hj ρj) (sub : ∀ b ∈ wr, b ∈ fp) (fresh : ∀ b ∈ wr, hm.get? b = none) (own : ∀ b ∈ fp, ¬ Own C b) (s' : S i h')
    (hk : ∀ b o, b ∉ wr → hj.get? b = some o → h'.get? b = some o) (R2 : Rel C σ2 hm ρ2) : Inv C σ2 hm ρ2 fp wr S i σj h' ρj := ⟨V.hid sub fresh own hk R2, s', V.live, V.good⟩
end

/-- what holds between the turns of a loop -/
inductive Turn (C : Cx) (σ2 : St) (hm : Heap) (ρ2 : Rho) (fp wr : List Addr) (S : Nat → Heap → Prop) (len : Nat) (F : Nat → St → Prop) (n : Nat) (s : Shared) : Prop where
  | mk (j : Nat) (hj : Heap) (tkj : Nat) (ρj : Rho) (σj : St) (e : s = C.at hj tkj) (en : n = len + 1 - j) (hle : j ≤ len) (V : Inv C σ2 hm ρ2 fp wr S j σj hj ρj) (k : F j σj)
/-- and of a comprehension's loop -/
inductive TurnC (C : Cx) (σ2 : St) (hm : Heap) (ρ2 : Rho) (fp wr : List Addr) (S : Array Value → Nat → Heap → Prop) (len : Nat) (F : Nat → List D → St → Prop) (n : Nat) (s : Shared) : Prop where
  | mk (j : Nat) (hj : Heap) (tkj : Nat) (ρj : Rho) (σj : St) (acc : Array Value) (ds : List D) (e : s = C.at hj tkj) (en : n = len + 1 - j) (hle : j ≤ len) (V : Inv C σ2 hm ρ2 fp wr (S acc) j σj hj ρj) (hsz : acc.size = j) (hr : RepDs hj ρj.gd ds acc.toList) (k : F j ds σj)

/-- for x in ..: the abstract loop -/
noncomputable def ForK (C : Cx) (i : Nat) (body : List Stmt) (K : Fl → St → Prop) : List D → St → Prop
  | [], σ => K .next σ
  | x :: r, σ => Exs C body (σ.setl i (.d x)) (loopK K (ForK C i body K r))

theorem Ex.for {K : Fl → St → Prop} {ns : List Str} {x : Str} {p pos : Pos} {iter : Expr} {body : List Stmt} (i : Nat) (ok : CxOk C) (hn : C.names = ns) (hx : ns[i]? = some x) (h : EvI C iter σ fun items σ1 => ForK C i body K items σ1)
    (hs : ∀ x, foldedSetIterable iter C.env x = pure x := by intro _; rfl) : Ex C (.For (.Name x p) iter body [] pos) σ K := fun hp tk ρ E R => by
  refine wpAny_For (mono' (h hp tk ρ E R) fun x' s1 h1 => mono' h1 ?_) hs
  rintro it _ ⟨hm, h2, tk2, ρ2, σ2, items, I, fp, wr, P, S, rfl, k2, S2, hk2, rfl, T⟩
  obtain ⟨c, hv⟩ := vt_of hn hx
  refine codeAny_forLoop (Turn C σ2 hm ρ2 fp wr S items.length fun j σj => ForK C i body K (items.drop j) σj) ?_ (items.length + 1)
    ⟨0, h2, tk2, ρ2, σ2, rfl, rfl, Nat.zero_le _, ⟨Step.grow S2.rel hk2, T.st, T.live, T.good⟩, by simpa using k2⟩
  rintro n _ ⟨j, hj, tkj, ρj, σj, rfl, rfl, hle, V, k⟩
  by_cases hlt : j < items.length
  · refine T.W.item j _ _ _ hlt V.st fun v h3 tk3 hP st3 hk3 => ?_
    have V3 := V.turn T.W.sub T.fresh T.own st3 hk3 S2.rel
    obtain ⟨d, hd, rd⟩ := T.rep j v hlt hP
    have rd := V3.step.repD S2.rel rd
    rw [List.drop_eq_getElem_cons hlt] at k
    have hd' : items[j] = d := by rw [List.getElem?_eq_getElem hlt] at hd; exact Option.some.inj hd
    rw [hd'] at k
    refine PyProof.Rows.assign_Name (mono' (store (i := i) (v := .d d) ok V3.step.rel hv rd) ?_)
    refine Did.elim fun _ h4 tk4 S4 => ?_
    have V4 := V3.next T.W.sub T.W.frame T.ex T.own S4
    refine mono' (k h4 tk4 ρj _ S4.rel) ?_
    refine Post.elim fun f' h5 tk5 ρ5 f σ5 k5 S5 r5 => ?_
    have V5 := V4.next T.W.sub T.W.frame T.ex T.own S5
    have go : ForK C i body K (items.drop (j + 1)) σ5 → ∃ m, m < items.length + 1 - j ∧ Turn C σ2 hm ρ2 fp wr S items.length (fun j σj => ForK C i body K (items.drop j) σj) m (C.at h5 tk5) := fun k => ⟨items.length + 1 - (j + 1), by lia, ⟨j + 1, h5, tk5, ρ5, σ5, rfl, rfl, hlt, V5, k⟩⟩
    have SS := S2.trans V5.step
    cases f with
    | next => have r5 : f' = .next := r5; subst r5; exact go k5
    | cont => have r5 : f' = .cont := r5; subst r5; exact go k5
    | brk => have r5 : f' = .brk := r5; subst r5; exact ⟨h5, tk5, ρ5, .next, σ5, rfl, k5, SS, rfl⟩
    | ret v => obtain ⟨v', rfl, r5⟩ := r5; exact ⟨h5, tk5, ρ5, .ret v, σ5, rfl, k5, SS, v', rfl, r5⟩
  · have e : j = items.length := by lia
    subst e
    refine T.W.done _ _ _ V.st fun h3 tk3 hk3 => ?_
    refine wpAny_execs_nil ?_
    have k : K .next σj := by simpa [ForK] using k
    exact ⟨h3, tk3, ρj, .next, σj, rfl, k, S2.trans (V.hid T.W.sub T.fresh T.own hk3 S2.rel), rfl⟩

/-- pairs to walk along -/
structure It2 (C : Cx) (σ2 : St) (hm h2 : Heap) (ρ2 : Rho) (I : Addr) (items : List (D × D)) (fp wr : List Addr) (Pt : Nat → Array Value → Prop) (S : Nat → Heap → Prop) (Mid : Nat → Addr → Heap → Prop) : Prop where
  W : WalksT C.prog C.w C.A I fp wr items.length Pt S Mid
  st : S 0 h2
  fresh : ∀ b ∈ wr, hm.get? b = none
  ex : ∀ i h, S i h → ∀ b ∈ fp, ∃ o, h.get? b = some o
  own : ∀ b ∈ fp, ¬ Own C b
  live : ∀ b ∈ fp, ¬ Live σ2 ρ2 b
  good : ∀ b ∈ wr, ¬ ρ2.gd b
  rep : ∀ i vs, i < items.length → Pt i vs → ∃ x y v u, items[i]? = some (x, y) ∧ vs = #[v, u] ∧ RepD hm ρ2.gd x v ∧ RepD hm ρ2.gd y u
inductive ItPost2 (C : Cx) (σ : St) (h : Heap) (ρ : Rho) (K : List (D × D) → St → Prop) (it : Value) (s2 : Shared) : Prop where
  | mk (hm h2 : Heap) (tk2 : Nat) (ρ2 : Rho) (σ2 : St) (items : List (D × D)) (I : Addr) (fp wr : List Addr) (P : Nat → Array Value → Prop) (S : Nat → Heap → Prop) (Mid : Nat → Addr → Heap → Prop) (e : s2 = C.at h2 tk2) (k : K items σ2) (S2 : Step C σ h ρ σ2 hm ρ2) (hk : ∀ b o, hm.get? b = some o → h2.get? b = some o) (ei : it = .ref I) (T : It2 C σ2 hm h2 ρ2 I items fp wr P S Mid)
noncomputable def EvI2 (C : Cx) (iter : Expr) (σ : St) (K : List (D × D) → St → Prop) : Prop :=
  ∀ h tk ρ (E : Value → Shared → Prop), Rel C σ h ρ → wpAny (model C.prog C.w) C.A (eval iter C.env) (fun x s1 => wpAny (model C.prog C.w) C.A (pyIter x) (ItPost2 C σ h ρ K) E s1) E (C.at h tk)

noncomputable def ForK2 (C : Cx) (is : List Nat) (body : List Stmt) (K : Fl → St → Prop) : List (D × D) → St → Prop
  | [], σ => K .next σ
  | (x, y) :: r, σ => Exs C body (σ.setls is [.d x, .d y]) (loopK K (ForK2 C is body K r))

/-- the targets get what a pair holds -/
theorem pair_stores {E : Value → Shared → Prop} {ns : List Str} {es : List Expr} {is : List Nat} {k : Nat} {tp : Pos} {h : Heap} {tk : Nat} {ρ : Rho} {T : Addr} {x y : D} {v u : Value} (ok : CxOk C) (hn : C.names = ns) (ht : Tg ns es is) (hl : es.length = 2)
    (R : Rel C σ h ρ) (hT : h.IsTuple T #[v, u]) (hv : RepD h ρ.gd x v) (hu : RepD h ρ.gd y u) :
    wpAny (model C.prog C.w) C.A (assign (.Tuple es k tp) C.env (.ref T)) (fun _ s' => Did C σ h ρ (σ.setls is [.d x, .d y]) s') E (C.at h tk) := by
  obtain ⟨q1, q2⟩ := ht.len (C := C)
  show wpAny _ _ (do standAt tp; unpack (.ref T) (assignEach es C.env)) _ _ _
  refine wpAny_bind (wpAny_standAt ?_)
  unfold unpack
  rw [q2, q1, hl]
  refine wpAny_bind (wpAny_holding (wpAny_unpackItems_tuple (items := #[v, u]) ok.han hT fun h2 he => ?_))
  have S2 := Step.grow R (ext_all he)
  have rr : Reps h ρ [.d x, .d y] [v, u] := ⟨v, _, rfl, hv, u, _, rfl, hu, rfl⟩
  refine mono' (stores (E := E) ok hn ht (by rw [hl]; rfl) S2.rel (S2.reps R rr)) ?_
  refine Did.elim fun _ h3 tk3 S3 => ?_
  exact ⟨h3, tk3, rfl, S2.trans S3⟩

theorem Ex.for2 {K : Fl → St → Prop} {ns : List Str} {es : List Expr} {is : List Nat} {k : Nat} {tp pos : Pos} {iter : Expr} {body : List Stmt} (ok : CxOk C) (hn : C.names = ns) (ht : Tg ns es is) (h2' : es.length = 2) (h : EvI2 C iter σ fun items σ1 => ForK2 C is body K items σ1)
    (hs : ∀ x, foldedSetIterable iter C.env x = pure x := by intro _; rfl) : Ex C (.For (.Tuple es k tp) iter body [] pos) σ K := fun hp tk ρ E R => by
  refine wpAny_For (mono' (h hp tk ρ E R) fun x' s1 h1 => mono' h1 ?_) hs
  rintro it _ ⟨hm, h2, tk2, ρ2, σ2, items, I, fp, wr, P, S, Mid, rfl, k2, S2, hk2, rfl, T⟩
  refine codeAny_forLoop_any (Turn C σ2 hm ρ2 fp wr S items.length fun j σj => ForK2 C is body K (items.drop j) σj) ?_ (items.length + 1)
    ⟨0, h2, tk2, ρ2, σ2, rfl, rfl, Nat.zero_le _, ⟨Step.grow S2.rel hk2, T.st, T.live, T.good⟩, by simpa using k2⟩
  rintro n _ ⟨j, hj, tkj, ρj, σj, rfl, rfl, hle, V, kk⟩
  by_cases hlt : j < items.length
  · refine T.W.item j _ _ _ hlt V.st fun TT vals h3 tk3 hP hTs hT hmid hk3 => ?_
    have S3 := V.hid T.W.sub T.fresh T.own hk3 S2.rel
    refine T.W.go _ _ _ j TT _ _ _ hmid fun h4 st4 hk4 => ?_
    have hk34 : ∀ b o, b ∉ wr → hj.get? b = some o → h4.get? b = some o := fun b o hb e => hk4 b o hb (hk3 b o hb e)
    have V4 := V.turn T.W.sub T.fresh T.own st4 hk34 S2.rel
    obtain ⟨x, y, v, u, hd, rfl, rx, ry⟩ := T.rep j vals hlt hP
    have rx := V4.step.repD S2.rel rx
    have ry := V4.step.repD S2.rel ry
    rw [List.drop_eq_getElem_cons hlt] at kk
    have hd' : items[j] = (x, y) := by rw [List.getElem?_eq_getElem hlt] at hd; exact Option.some.inj hd
    rw [hd'] at kk
    have hT4 : h4.IsTuple TT #[v, u] := by
      obtain ⟨o, ho, r⟩ := hT
      exact ⟨o, hk4 TT o (T.W.apart j TT h3 hmid) ho, r⟩
    refine mono' (pair_stores (E := _) ok hn ht h2' V4.step.rel hT4 rx ry) ?_
    refine Did.elim fun _ h5 tk5 S5 => ?_
    have V5 := V4.next T.W.sub T.W.frame T.ex T.own S5
    refine mono' (kk h5 tk5 ρj _ S5.rel) ?_
    refine Post.elim fun f' h6 tk6 ρ6 f σ6 k6 S6 r6 => ?_
    have V6 := V5.next T.W.sub T.W.frame T.ex T.own S6
    have go : ForK2 C is body K (items.drop (j + 1)) σ6 → ∃ m, m < items.length + 1 - j ∧ Turn C σ2 hm ρ2 fp wr S items.length (fun j σj => ForK2 C is body K (items.drop j) σj) m (C.at h6 tk6) := fun k => ⟨items.length + 1 - (j + 1), by lia, ⟨j + 1, h6, tk6, ρ6, σ6, rfl, rfl, hlt, V6, k⟩⟩
    have SS := S2.trans V6.step
    cases f with
    | next => have r6 : f' = .next := r6; subst r6; exact go k6
    | cont => have r6 : f' = .cont := r6; subst r6; exact go k6
    | brk => have r6 : f' = .brk := r6; subst r6; exact ⟨h6, tk6, ρ6, .next, σ6, rfl, k6, SS, rfl⟩
    | ret v => obtain ⟨v', rfl, r6⟩ := r6; exact ⟨h6, tk6, ρ6, .ret v, σ6, rfl, k6, SS, v', rfl, r6⟩
  · have e : j = items.length := by lia
    subst e
    refine T.W.done _ _ _ V.st fun h3 tk3 hk3 => ?_
    refine wpAny_execs_nil ?_
    have k : K .next σj := by simpa [ForK2] using kk
    exact ⟨h3, tk3, ρj, .next, σj, rfl, k, S2.trans (V.hid T.W.sub T.fresh T.own hk3 S2.rel), rfl⟩

theorem zip_apart {h : Heap} {l1 l2 : Addr} (h1 : l1 < h.objs.size) (h2 : l2 < h.objs.size) : ZipApart (h.objs.size + 4) (h.objs.size + 2) (h.objs.size + 3) h.objs.size (h.objs.size + 1) l1 l2 := by
  have a : @LT.lt Nat _ l1 h.objs.size := h1
  have b : @LT.lt Nat _ l2 h.objs.size := h2
  refine ⟨?_, ?_, ?_, ?_, ?_, ?_, ?_, ?_, ?_, ?_, ?_, ?_, ?_, ?_, ?_, ?_, ?_, ?_⟩ <;> (intro e; have e : @Eq Nat _ _ := e; lia)
/-- zip(xs, ys) -/
theorem EvI2.zip {K : List (D × D) → St → Prop} {func e e' : Expr} {pos : Pos} (ok : CxOk C)
    (h : Ev C func σ fun f σ1 => f = .d (.val (.type "zip")) ∧ EvA C pos [e, e'] σ1 fun vs σ2 => ∃ xs ys, vs = [.d (.list xs), .d (.list ys)] ∧ K (xs.zip ys) σ2)
    (hst : starEach [e, e'] C.env = (false, eval e C.env) :: starEach [e'] C.env := by rfl) (hplain : (backTo pos (starEach [e'] C.env)).any (·.1) = false := by rfl)
    (he : eval (.Call func [e, e'] [] pos) C.env = (do callWith pos (← eval func C.env) [] (backTo pos (starEach [e, e'] C.env)) []) := by rfl) : EvI2 C (.Call func [e, e'] [] pos) σ K := fun hp tk ρ E R => by
  refine call_gen (G := fun f' vs σ2 => f' = .type "zip" ∧ ∃ xs ys, vs = [.d (.list xs), .d (.list ys)] ∧ K (xs.zip ys) σ2) R (h.mono ?_) ?_ hst hplain he
  · rintro f σ1 ⟨rfl, k⟩
    exact ⟨_, rfl, .type _, k.mono fun vs σ2 x => ⟨rfl, x⟩⟩
  · rintro f' vs σ2 h2 tk2 ρ2 vs' ⟨rfl, xs, ys, rfl, k⟩ S r
    obtain ⟨v, v2, rfl, r1, r2⟩ := reps2 r
    simp only [Rep, RepD] at r1 r2
    obtain ⟨l1, vx, n1, rfl, hl1, g1, hr1⟩ := r1
    obtain ⟨l2, vy, n2, rfl, hl2, g2, hr2⟩ := r2
    have e1 : vx.size = xs.length := by have := hr1.length; simpa using this
    have e2 : vy.size = ys.length := by have := hr2.length; simpa using this
    refine call_zip_2 hl1.isList hl2.isList fun h3 hz hTI hTO hi1 hi2 hsz hk => ?_
    refine wpAny_pyIter_zip hz ?_
    have D := zip_apart (Heap.lt_size hl1) (Heap.lt_size hl2)
    have W := WalksT.zip2 (prog := C.prog) (w := C.w) ok.han (h2.objs.size + 4) (h2.objs.size + 2) (h2.objs.size + 3) h2.objs.size (h2.objs.size + 1) l1 l2 D vx vy
    have fr : ∀ k, h2.get? (h2.objs.size + k) = none := fun k => Heap.get?_none_of_le (Nat.le_add_right _ _)
    have fr0 : h2.get? h2.objs.size = none := fr 0
    have hlen : (xs.zip ys).length = min vx.size vy.size := by rw [List.length_zip, e1, e2]
    have notold : ∀ b ∈ [h2.objs.size + 4, h2.objs.size + 2, h2.objs.size + 3, h2.objs.size, h2.objs.size + 1, l1, l2], (h2.get? b = none) ∨ b = l1 ∨ b = l2 := fun b hb => by
      simp at hb
      rcases hb with rfl | rfl | rfl | rfl | rfl | rfl | rfl
      · exact .inl (fr 4)
      · exact .inl (fr 2)
      · exact .inl (fr 3)
      · exact .inl fr0
      · exact .inl (fr 1)
      · exact .inr (.inl rfl)
      · exact .inr (.inr rfl)
    have wrfresh : ∀ b ∈ [h2.objs.size + 4, h2.objs.size + 3, h2.objs.size, h2.objs.size + 1], h2.get? b = none := fun b hb => by
      simp at hb
      rcases hb with rfl | rfl | rfl | rfl
      · exact fr 4
      · exact fr 3
      · exact fr0
      · exact fr 1
    refine ⟨h2, h3, tk2, ρ2, σ2, xs.zip ys, _, _, _, _, _, _, rfl, k, S, hk, rfl, ⟨hlen ▸ W, ?_, wrfresh, ?_, ?_, ?_, ?_, ?_⟩⟩
    · exact ⟨hz, hTI, ⟨_, _, hTO⟩, hi1, hi2, (IsL.isList (hk _ _ hl1)), (IsL.isList (hk _ _ hl2))⟩
    · rintro i h ⟨q1, q2, ⟨_, _, q3⟩, ⟨o4, q4, _⟩, ⟨o5, q5, _⟩, ⟨o6, q6, _⟩, ⟨o7, q7, _⟩⟩ b hb
      simp at hb
      rcases hb with rfl | rfl | rfl | rfl | rfl | rfl | rfl
      · exact ⟨_, q1⟩
      · exact ⟨_, q2⟩
      · exact ⟨_, q3⟩
      · exact ⟨_, q4⟩
      · exact ⟨_, q5⟩
      · exact ⟨_, q6⟩
      · exact ⟨_, q7⟩
    · intro b hb ho
      rcases notold b hb with q | rfl | rfl
      · obtain ⟨o, z, _⟩ := own_obj S.rel ho; rw [q] at z; cases z
      · exact not_own_L S.rel hl1 rfl ho
      · exact not_own_L S.rel hl2 rfl ho
    · intro b hb ho
      rcases notold b hb with q | rfl | rfl
      · obtain ⟨_, _, z⟩ := live_obj S.rel ho; cases q.symm.trans z
      · exact gd_not_live S.rel g1 ho
      · exact gd_not_live S.rel g2 ho
    · intro b hb g
      obtain ⟨m, RM⟩ := S.rel
      obtain ⟨o, z⟩ := RM.gin b g
      rw [wrfresh b hb] at z; cases z
    · rintro i vs hi ⟨x, y, hx, hy, rfl⟩
      obtain ⟨a, ha, ra⟩ := hr1.get' (i := i) (by simpa using hx)
      obtain ⟨b, hb, rb⟩ := hr2.get' (i := i) (by simpa using hy)
      refine ⟨a, b, x, y, ?_, rfl, ra, rb⟩
      rw [List.getElem?_zip_eq_some]
      exact ⟨ha, hb⟩
/-- enumerate(xs) -/
theorem EvI2.enum {K : List (D × D) → St → Prop} {func e : Expr} {pos : Pos} (ok : CxOk C)
    (h : Ev C func σ fun f σ1 => f = .d (.val (.type "enumerate")) ∧ EvA C pos [e] σ1 fun vs σ2 => ∃ xs, vs = [.d (.list xs)] ∧ K (xs.zipIdx.map fun p => (D.int (p.2 : Nat), p.1)) σ2)
    (hst : starEach [e] C.env = (false, eval e C.env) :: starEach [] C.env := by rfl)
    (he : eval (.Call func [e] [] pos) C.env = (do callWith pos (← eval func C.env) [] (backTo pos (starEach [e] C.env)) []) := by rfl) : EvI2 C (.Call func [e] [] pos) σ K := fun hp tk ρ E R => by
  refine call_gen (G := fun f' vs σ2 => f' = .type "enumerate" ∧ ∃ xs, vs = [.d (.list xs)] ∧ K (xs.zipIdx.map fun p => (D.int (p.2 : Nat), p.1)) σ2) R (h.mono ?_) ?_ hst rfl he
  · rintro f σ1 ⟨rfl, k⟩
    exact ⟨_, rfl, .type _, k.mono fun vs σ2 x => ⟨rfl, x⟩⟩
  · rintro f' vs σ2 h2 tk2 ρ2 vs' ⟨rfl, xs, rfl, k⟩ S r
    obtain ⟨v, rfl, r1⟩ := reps1 r
    simp only [Rep, RepD] at r1
    obtain ⟨l1, vx, n1, rfl, hl1, g1, hr1⟩ := r1
    have e1 : vx.size = xs.length := by have := hr1.length; simpa using this
    have fr : ∀ k, h2.get? (h2.objs.size + k) = none := fun k => Heap.get?_none_of_le (Nat.le_add_right _ _)
    have fr0 : h2.get? h2.objs.size = none := fr 0
    refine call_enumerate_list hl1.isList fun h3 he hi1 hsz hk => ?_
    refine wpAny_pyIter_enum he ?_
    have ne0 : (h2.objs.size + 1 : Nat) ≠ h2.objs.size := by lia
    have l1lt : @LT.lt Nat _ l1 h2.objs.size := Heap.lt_size hl1
    have W := WalksT.enumerate (prog := C.prog) (w := C.w) ok.han (h2.objs.size + 1) h2.objs.size l1 ne0 (fun q => by have q : @Eq Nat _ _ := q; lia) (fun q => by have q : @Eq Nat _ _ := q; (clear l1lt; lia)) vx
    have hlen : (xs.zipIdx.map fun p => (D.int (p.2 : Nat), p.1)).length = vx.size := by simp [e1]
    have notold : ∀ b ∈ [h2.objs.size + 1, h2.objs.size, l1], (h2.get? b = none) ∨ b = l1 := fun b hb => by
      simp at hb
      rcases hb with rfl | rfl | rfl
      · exact .inl (fr 1)
      · exact .inl fr0
      · exact .inr rfl
    have wrfresh : ∀ b ∈ [h2.objs.size + 1, h2.objs.size], h2.get? b = none := fun b hb => by
      simp at hb
      rcases hb with rfl | rfl
      · exact fr 1
      · exact fr0
    refine ⟨h2, h3, tk2, ρ2, σ2, _, _, _, _, _, _, _, rfl, k, S, hk, rfl, ⟨hlen ▸ W, ?_, wrfresh, ?_, ?_, ?_, ?_, ?_⟩⟩
    · exact ⟨⟨_, he⟩, hi1, (IsL.isList (hk _ _ hl1))⟩
    · rintro i h ⟨⟨_, q1⟩, ⟨o4, q4, _⟩, ⟨o6, q6, _⟩⟩ b hb
      simp at hb
      rcases hb with rfl | rfl | rfl
      · exact ⟨_, q1⟩
      · exact ⟨_, q4⟩
      · exact ⟨_, q6⟩
    · intro b hb ho
      rcases notold b hb with q | rfl
      · obtain ⟨o, z, _⟩ := own_obj S.rel ho; rw [q] at z; cases z
      · exact not_own_L S.rel hl1 rfl ho
    · intro b hb ho
      rcases notold b hb with q | rfl
      · obtain ⟨_, _, z⟩ := live_obj S.rel ho; cases q.symm.trans z
      · exact gd_not_live S.rel g1 ho
    · intro b hb g
      obtain ⟨m, RM⟩ := S.rel
      obtain ⟨o, z⟩ := RM.gin b g
      rw [wrfresh b hb] at z; cases z
    · rintro i vs hi ⟨t, x, hx, rfl⟩
      obtain ⟨a, ha, ra⟩ := hr1.get' (i := i) (by simpa using hx)
      refine ⟨.int (i : Nat), a, .int i t, x, ?_, rfl, by simp only [RepD]; exact ⟨t, rfl⟩, ra⟩
      rw [List.getElem?_map, List.getElem?_zipIdx, ha]
      simp
end
end Mine
end

section -- Fw10
open PySem PySem.W PySem.Calls PyProof.Rows
namespace Mine

section
variable {C : Cx} {σ : St}

noncomputable def Cx.shape (C : Cx) : List (Str × Bool) := C.vt.map fun p => (p.1, p.2.isSome)
theorem names_shape {sh : List (Str × Bool)} (h : C.shape = sh) : C.names = sh.map (·.1) := by
  subst h
  unfold Cx.names Cx.shape
  rw [List.map_map]; rfl
theorem shape_cell {i : Nat} {y : Str} (h : C.shape[i]? = some (y, true)) : ∃ c, C.vt[i]? = some (y, some c) := by
  unfold Cx.shape at h
  rw [List.getElem?_map] at h
  cases e : C.vt[i]? with
  | none => rw [e] at h; cases h
  | some p =>
    rw [e] at h
    obtain ⟨z, c⟩ := p
    cases c with
    | none => cases h
    | some c => cases h; exact ⟨c, rfl⟩
theorem shape_loc {i : Nat} {y : Str} (h : C.shape[i]? = some (y, false)) : C.vt[i]? = some (y, none) := by
  unfold Cx.shape at h
  rw [List.getElem?_map] at h
  cases e : C.vt[i]? with
  | none => rw [e] at h; cases h
  | some p =>
    rw [e] at h
    obtain ⟨z, c⟩ := p
    cases c with
    | none => cases h; rfl
    | some c => cases h

/-- the frame within a comprehension -/
structure Sub (C : Cx) (scope : Scope) (xs : List Str) (cap : List Nat) (C' : Cx) : Prop where
  ok : CxOk C'
  shape : C'.shape = xs.map (fun x => (x, false)) ++ cap.map (fun i => (C.shape[i]?).getD default)
  glo : ∀ y, scope.names.lookup y = some .globalImplicit → C'.env.kindOf y = some .globalImplicit
  prog : C'.prog = C.prog
  w : C'.w = C.w
  A : C'.A = C.A
  g : C'.g = C.g
  s : C'.s = C.s
  mg : C'.mg = C.mg
  mb : C'.mb = C.mb

noncomputable def caps (σ : St) (cap : List Nat) : List (Option V) := cap.map fun i => (σ.loc[i]?).join

/-- what is asked of a comprehension's scope -/
structure ScopeOk (C : Cx) (scope : Scope) (xs : List Str) (cap : List Nat) (capn : List Str) : Prop where
  kind : scope.kind = .function
  names : ∀ y ∈ scope.names, y.2 = .local → scope.names.lookup y.1 = some .local
  cell : ∀ y ∈ scope.names, y.2 ≠ .cell
  tg : ∀ x ∈ xs, scope.names.lookup x = some .local
  fr : ∀ y ∈ scope.names, y.2 = .free → y.1 ∈ capn
  fl : ∀ y ∈ capn, scope.names.lookup y = some .free
  len : cap.length = capn.length
  sh : ∀ (j : Nat) i y, cap[j]? = some i → capn[j]? = some y → C.shape[i]? = some (y, true)
  nd : (xs ++ capn).Nodup

theorem closure_ok {scope : Scope} (env : Env) : ∀ (names : List (Str × NameKind)) (acc : List (Str × Addr)), (∀ y ∈ names, y.2 = .free → ∃ c, env.cells.lookup y.1 = some c) →
    ∃ cl : List (Str × Addr), (forIn names acc fun x r => (match x with | (name, kind) => if (kind == NameKind.free) = true then (do let a ← cellOf env name; pure (ForInStep.yield ((name, a) :: r))) else pure (ForInStep.yield r) : Sem (ForInStep (List (Str × Addr))))) = pure cl ∧
      (∀ y c, acc.lookup y = some c → env.cells.lookup y = some c → cl.lookup y = some c) ∧ (∀ y ∈ names, y.2 = .free → ∀ c, env.cells.lookup y.1 = some c → cl.lookup y.1 = some c)
  | [], acc, _ => ⟨acc, by rw [List.forIn_nil], fun _ _ h _ => h, fun y hy => by simp at hy⟩
  | (n, k) :: r, acc, h => by
    rw [List.forIn_cons]
    by_cases hk : (k == NameKind.free) = true
    · obtain ⟨c, hc⟩ := h (n, k) (by simp) (by simpa using hk)
      obtain ⟨cl, e, h1, h2⟩ := closure_ok (scope := scope) env r ((n, c) :: acc) fun y hy => h y (List.mem_cons_of_mem _ hy)
      have hc' : cellOf env n = pure c := by unfold cellOf; dsimp only at hc; rw [hc]
      refine ⟨cl, ?_, fun y d hy hd => ?_, fun y hy hf d hd => ?_⟩
      · simp only [hk, if_true, hc']
        exact e
      · refine h1 y d ?_ hd
        rw [List.lookup_cons]
        by_cases q : (y == n) = true
        · rw [q]
          have : y = n := by simpa using q
          subst this
          dsimp only at hc
          rw [hd] at hc
          exact hc.symm ▸ rfl
        · rw [show (y == n) = false by simpa using q]; exact hy
      · rcases List.mem_cons.mp hy with rfl | hy
        · refine h1 _ d ?_ hd
          dsimp only at hc hd ⊢
          rw [List.lookup_cons]
          simp only [beq_self_eq_true]
          rw [hd] at hc
          exact hc.symm ▸ rfl
        · exact h2 y hy hf d hd
    · obtain ⟨cl, e, h1, h2⟩ := closure_ok (scope := scope) env r acc fun y hy => h y (List.mem_cons_of_mem _ hy)
      refine ⟨cl, ?_, h1, fun y hy hf d hd => ?_⟩
      · simp only [hk]
        exact e
      · rcases List.mem_cons.mp hy with rfl | hy
        · exact absurd (by simpa using hf) hk
        · exact h2 y hy hf d hd

theorem lookup_relabel_free {env : Env} (hk : env.scope.kind = .function) : ∀ {names : List (Str × NameKind)} {x : Str}, names.lookup x = some .free → env.kindOf x = some .cell →
    (names.map fun (n, k) => if (k == NameKind.free && env.scope.kind == .function && env.kindOf n == some .cell) then (n, NameKind.cell) else (n, k)).lookup x = some .cell
  | [], _, h, _ => by simp at h
  | (n, k) :: r, x, h, hc => by
    have ih := lookup_relabel_free hk (names := r) (x := x)
    show List.lookup x ((if (k == NameKind.free && env.scope.kind == .function && env.kindOf n == some .cell) = true then (n, NameKind.cell) else (n, k)) :: _) = _
    cases hx : x == n with
    | true =>
      simp only [List.lookup_cons, hx] at h
      cases h
      have e : x = n := by simpa using hx
      subst e
      simp [hk, hc]
    | false =>
      simp only [List.lookup_cons, hx] at h
      by_cases q : (k == NameKind.free && env.scope.kind == .function && env.kindOf n == some .cell) = true
      · rw [if_pos q]; simp only [List.lookup_cons, hx]; exact ih h hc
      · rw [if_neg q]; simp only [List.lookup_cons, hx]; exact ih h hc
theorem lookup_relabel_glo {env : Env} : ∀ {names : List (Str × NameKind)} {x : Str}, names.lookup x = some .globalImplicit →
    (names.map fun (n, k) => if (k == NameKind.free && env.scope.kind == .function && env.kindOf n == some .cell) then (n, NameKind.cell) else (n, k)).lookup x = some .globalImplicit
  | [], _, h => by simp at h
  | (n, k) :: r, x, h => by
    have ih := lookup_relabel_glo (env := env) (names := r) (x := x)
    show List.lookup x ((if (k == NameKind.free && env.scope.kind == .function && env.kindOf n == some .cell) = true then (n, NameKind.cell) else (n, k)) :: _) = _
    cases hx : x == n with
    | true =>
      simp only [List.lookup_cons, hx] at h
      cases h
      simp [List.lookup_cons, hx]
    | false =>
      simp only [List.lookup_cons, hx] at h
      by_cases q : (k == NameKind.free && env.scope.kind == .function && env.kindOf n == some .cell) = true
      · rw [if_pos q]; simp only [List.lookup_cons, hx]; exact ih h
      · rw [if_neg q]; simp only [List.lookup_cons, hx]; exact ih h

noncomputable def inner (C : Cx) (scope : Scope) (xs : List Str) (cap : List Nat) (cl : List (Str × Addr)) (Cd : Addr) : Cx :=
  { C with env := compEnvC scope cl Cd C.env, vt := xs.map (fun x => (x, none)) ++ cap.map (fun i => (C.vt[i]?).getD default) }

theorem ScopeOk.closure {scope : Scope} {xs : List Str} {cap : List Nat} {capn : List Str} (O : ScopeOk C scope xs cap capn) (ok : CxOk C) :
    ∃ cl, closureFor scope C.env = pure cl ∧ ∀ (j : Nat) i y c, cap[j]? = some i → capn[j]? = some y → C.vt[i]? = some (y, some c) → cl.lookup y = some c := by
  obtain ⟨cl, e, _, h2⟩ := closure_ok (scope := scope) C.env scope.names [] fun y hy hf => by
    have hm := O.fr y hy hf
    obtain ⟨j, hj⟩ := List.getElem?_of_mem hm
    have hlt : j < cap.length := by rw [O.len]; exact (List.getElem?_eq_some_iff.mp hj).1
    obtain ⟨c, hc⟩ := shape_cell (O.sh j _ _ (List.getElem?_eq_getElem hlt) hj)
    exact ⟨c, (ok.cel _ c (List.mem_of_getElem? hc)).2⟩
  refine ⟨cl, ?_, fun j i y c hi hy hc => ?_⟩
  · unfold closureFor
    exact (congrArg (fun (m : Sem (List (Str × Addr))) => m >>= fun s => pure s) e).trans rfl
  · have hl := O.fl y (List.mem_of_getElem? hy)
    have hm := mem_of_lookup hl
    exact h2 (y, .free) hm rfl c (ok.cel _ c (List.mem_of_getElem? hc)).2

section
variable {scope : Scope} {xs : List Str} {cap : List Nat} {capn : List Str} {cl : List (Str × Addr)} {Cd : Addr}
theorem inner_vt {j : Nat} {y : Str} {c : Option Addr} (O : ScopeOk C scope xs cap capn) (h : (inner C scope xs cap cl Cd).vt[j]? = some (y, c)) :
    (j < xs.length ∧ c = none ∧ y ∈ xs) ∨ (∃ j' i c', j = xs.length + j' ∧ cap[j']? = some i ∧ capn[j']? = some y ∧ c = some c' ∧ C.vt[i]? = some (y, some c')) := by
  unfold inner at h
  dsimp only at h
  rcases Nat.lt_or_ge j xs.length with q | q
  · rw [List.getElem?_append_left (by simpa using q), List.getElem?_map] at h
    cases e : xs[j]? with
    | none => rw [e] at h; cases h
    | some x => rw [e] at h; cases h; exact .inl ⟨q, rfl, List.mem_of_getElem? e⟩
  · rw [List.getElem?_append_right (by simpa using q), List.getElem?_map] at h
    simp only [List.length_map] at h
    cases e : cap[j - xs.length]? with
    | none => rw [e] at h; cases h
    | some i =>
      rw [e] at h
      have hlt : j - xs.length < capn.length := by rw [← O.len]; exact (List.getElem?_eq_some_iff.mp e).1
      obtain ⟨c', hc'⟩ := shape_cell (O.sh _ _ _ e (List.getElem?_eq_getElem hlt))
      simp only [Option.map_some, hc', Option.getD_some] at h
      cases h
      exact .inr ⟨j - xs.length, i, c', by lia, e, List.getElem?_eq_getElem hlt, rfl, hc'⟩
theorem inner_shape (O : ScopeOk C scope xs cap capn) : (inner C scope xs cap cl Cd).shape = xs.map (fun x => (x, false)) ++ cap.map (fun i => (C.shape[i]?).getD default) := by
  unfold inner Cx.shape
  dsimp only
  rw [List.map_append, List.map_map, List.map_map]
  congr 1
  refine List.map_congr_left fun i hi => ?_
  obtain ⟨j, hj⟩ := List.getElem?_of_mem hi
  have hlt : j < capn.length := by rw [← O.len]; exact (List.getElem?_eq_some_iff.mp hj).1
  obtain ⟨c', hc'⟩ := shape_cell (O.sh _ _ _ hj (List.getElem?_eq_getElem hlt))
  simp [hc']
theorem inner_names (O : ScopeOk C scope xs cap capn) : (inner C scope xs cap cl Cd).names = xs ++ capn := by
  rw [names_shape (inner_shape O), List.map_append, List.map_map, List.map_map]
  congr 1
  · exact (List.map_congr_left fun x _ => rfl).trans (List.map_id xs)
  · refine List.ext_getElem? fun j => ?_
    rw [List.getElem?_map]
    cases hj : cap[j]? with
    | none =>
      have : capn.length ≤ j := by rw [← O.len]; exact List.getElem?_eq_none_iff.mp hj
      rw [List.getElem?_eq_none this]; rfl
    | some i =>
      have hlt : j < capn.length := by rw [← O.len]; exact (List.getElem?_eq_some_iff.mp hj).1
      have := O.sh _ _ _ hj (List.getElem?_eq_getElem hlt)
      rw [List.getElem?_eq_getElem hlt]
      simp [this]
theorem own_inner (O : ScopeOk C scope xs cap capn) {b : Addr} (h : Own (inner C scope xs cap cl Cd) b) : b = Cd ∨ (∃ (j' i : Nat) (y : Str), cap[j']? = some i ∧ capn[j']? = some y ∧ C.vt[i]? = some (y, some b)) := by
  rcases h with h | ⟨y, h⟩
  · exact .inl h
  · obtain ⟨j, hj⟩ := List.getElem?_of_mem h
    rcases inner_vt O hj with ⟨_, e, _⟩ | ⟨j', i, c', _, h1, h2, e, h3⟩
    · cases e
    · cases e; exact .inr ⟨j', i, y, h1, h2, h3⟩
theorem own_inner' (O : ScopeOk C scope xs cap capn) {b : Addr} (h : Own (inner C scope xs cap cl Cd) b) : b = Cd ∨ Own C b := by
  rcases own_inner O h with h | ⟨j', i, y, _, _, h⟩
  · exact .inl h
  · exact .inr (.inr ⟨y, List.mem_of_getElem? h⟩)

theorem inner_ok (O : ScopeOk C scope xs cap capn) (ok : CxOk C) {h : Heap} {ρ : Rho} (R : Rel C σ h ρ) (hCd : h.get? Cd = none)
    (hcl : ∀ (j : Nat) i y c, cap[j]? = some i → capn[j]? = some y → C.vt[i]? = some (y, some c) → cl.lookup y = some c) : Sub C scope xs cap (inner C scope xs cap cl Cd) := by
  refine ⟨⟨O.kind, ok.glo, ok.bui, ok.han, ok.gns, ok.bns, ok.lim, fun x hx => ?_, fun x c hx => ?_, ?_, fun x y c hx hy => ?_, fun x hx => ?_, fun b hb => ?_⟩, inner_shape O, fun y hy => ?_, rfl, rfl, rfl, rfl, rfl, rfl, rfl⟩
  · obtain ⟨j, hj⟩ := List.getElem?_of_mem hx
    rcases inner_vt O hj with ⟨_, _, hm⟩ | ⟨_, _, _, _, _, _, e, _⟩
    · exact lookup_relabel_local (O.tg x hm)
    · cases e
  · obtain ⟨j, hj⟩ := List.getElem?_of_mem hx
    rcases inner_vt O hj with ⟨_, e, _⟩ | ⟨j', i, c', _, h1, h2, e, h3⟩
    · cases e
    · cases e
      exact ⟨lookup_relabel_free ok.kind (O.fl x (List.mem_of_getElem? h2)) (ok.cel x c (List.mem_of_getElem? h3)).1, hcl j' i x c h1 h2 h3⟩
  · rw [inner_names O]; exact O.nd
  · obtain ⟨j, hj⟩ := List.getElem?_of_mem hx
    obtain ⟨j2, hj2⟩ := List.getElem?_of_mem hy
    rcases inner_vt O hj with ⟨_, e, _⟩ | ⟨_, i, c', _, _, _, e, h3⟩
    · cases e
    · cases e
      rcases inner_vt O hj2 with ⟨_, e, _⟩ | ⟨_, i2, c2, _, _, _, e, h4⟩
      · cases e
      · cases e
        exact ok.cnd x y c (List.mem_of_getElem? h3) (List.mem_of_getElem? h4)
  · obtain ⟨j, hj⟩ := List.getElem?_of_mem hx
    rcases inner_vt O hj with ⟨_, e, _⟩ | ⟨_, i, c', _, _, _, e, h3⟩
    · cases e
    · cases e
      obtain ⟨m, RM⟩ := R
      obtain ⟨v, o, ho, _⟩ := RM.cells x _ (List.mem_of_getElem? h3)
      have ho : h.get? Cd = some o := ho
      rw [hCd] at ho; cases ho
  · rcases own_inner' O hb with rfl | hb
    · cases hg : C.g.get? b with
      | none => exact hg
      | some o =>
        obtain ⟨m, RM⟩ := R
        have := RM.glob b o hg
        rw [hCd] at this; cases this
    · exact ok.owng b hb
  · exact lookup_relabel_glo hy

/-- the state within -/
noncomputable def St.inn (σ : St) (xs : List Str) (cap : List Nat) : St := ⟨xs.map (fun _ => none) ++ caps σ cap, σ.mu⟩

/-- into the comprehension's frame -/
theorem rel_in (O : ScopeOk C scope xs cap capn) {hm hb : Heap} {ρ : Rho} {m' : Str → Option Value} (R : Rel C σ hm ρ) (hk : ∀ b o, hm.get? b = some o → hb.get? b = some o) (hns : hb.Ns Cd m') :
    Rel (inner C scope xs cap cl Cd) (σ.inn xs cap) hb ρ := by
  obtain ⟨m, R⟩ := R.grow hk
  refine ⟨m', R.len, R.inj, R.muts, fun j v e => ?_, hns, fun x c e => ?_, R.glob, R.liveg, R.rin, R.livegd, R.adg, R.gg, R.gin⟩
  · unfold St.inn at e
    dsimp only at e
    rcases Nat.lt_or_ge j xs.length with q | q
    · rw [List.getElem?_append_left (by simpa using q), List.getElem?_map] at e
      cases z : xs[j]? with
      | none => rw [z] at e; cases e
      | some x => rw [z] at e; cases e
    · rw [List.getElem?_append_right (by simpa using q)] at e
      simp only [List.length_map] at e
      unfold caps at e
      rw [List.getElem?_map] at e
      cases z : cap[j - xs.length]? with
      | none => rw [z] at e; cases e
      | some i =>
        rw [z] at e
        simp only [Option.map_some, Option.some.injEq] at e
        have e2 : σ.loc[i]? = some (some v) := by
          cases w : σ.loc[i]? with
          | none => rw [w] at e; cases e
          | some u => rw [w] at e; simp at e; rw [e]
        obtain ⟨x, c, v', h1, h2, h3⟩ := R.locs i v e2
        have hlt : j - xs.length < capn.length := by rw [← O.len]; exact (List.getElem?_eq_some_iff.mp z).1
        obtain ⟨c', hc'⟩ := shape_cell (O.sh _ _ _ z (List.getElem?_eq_getElem hlt))
        rw [h1] at hc'
        cases hc'
        refine ⟨capn[j - xs.length], some c', v', ?_, h2, h3⟩
        unfold inner
        dsimp only
        rw [List.getElem?_append_right (by simpa using q), List.getElem?_map]
        simp only [List.length_map, z, Option.map_some, h1, Option.getD_some]
  · obtain ⟨j, hj⟩ := List.getElem?_of_mem e
    rcases inner_vt O hj with ⟨_, e, _⟩ | ⟨_, i, c', _, _, _, e, h3⟩
    · cases e
    · cases e
      exact R.cells x c (List.mem_of_getElem? h3)

/-- out of it: D holds what was gathered -/
noncomputable def Rho.plus (ρ : Rho) (D : Addr) : Rho := { ρ with gd := fun a => ρ.gd a ∨ a = D }
noncomputable def St.out (σ σe : St) : St := ⟨σ.loc, σe.mu⟩
theorem step_out (O : ScopeOk C scope xs cap capn) (ok : CxOk C) {hm hb he : Heap} {ρ ρe : Rho} {σe : St} {D : Addr} {o : Obj} (R : Rel C σ hm ρ) (hCd : hm.get? Cd = none) (hCdb : ∃ o, hb.get? Cd = some o) (hD : hm.get? D = none)
    (hk : ∀ b o, hm.get? b = some o → hb.get? b = some o) (T : Step (inner C scope xs cap cl Cd) (σ.inn xs cap) hb ρ σe he ρe) (hloc : σe.loc.drop xs.length = caps σ cap)
    (hDo : he.get? D = some o) (hDl : ¬ Live σe ρe D) : Step C σ hm ρ (σ.out σe) he (ρe.plus D) := by
  obtain ⟨m, RM⟩ := id R
  obtain ⟨me, RE⟩ := id T.rel
  have back : ∀ a, hb.get? a = none → hm.get? a = none := fun a e => by
    cases q : hm.get? a with
    | none => rfl
    | some o => rw [hk a o q] at e; cases e
  have notCd : ∀ b o, hm.get? b = some o → b ≠ Cd := fun b o e q => by subst q; rw [hCd] at e; cases e
  have keep : ∀ b o, hm.get? b = some o → ¬ Own (inner C scope xs cap cl Cd) b → ¬ Live σ ρ b → he.get? b = some o := fun b o e no nl => T.keep b o (hk b o e) no nl
  have keepO : ∀ b o, hm.get? b = some o → ¬ Own C b → ¬ Live σ ρ b → he.get? b = some o := fun b o e no nl => keep b o e (fun q => by
    rcases own_inner' O q with q | q
    · exact notCd b o e q
    · exact no q) nl
  have hLs : ∀ a vs n, IsL hm a vs n → ρ.gd a → IsL he a vs n ∧ (ρe.plus D).gd a := fun a vs n x g => ⟨keepO a _ x (not_own_L R x rfl) (gd_not_live R g), .inl (T.gm a g)⟩
  have hTs : ∀ a vs n, IsT hm a vs n → ρ.gd a → IsT he a vs n ∧ (ρe.plus D).gd a := fun a vs n x g => ⟨keepO a _ x (not_own_L R x rfl) (gd_not_live R g), .inl (T.gm a g)⟩
  have hLe : ∀ a vs n, IsL he a vs n → ρe.gd a → IsL he a vs n ∧ (ρe.plus D).gd a := fun a vs n x g => ⟨x, .inl g⟩
  have hTe : ∀ a vs n, IsT he a vs n → ρe.gd a → IsT he a vs n ∧ (ρe.plus D).gd a := fun a vs n x g => ⟨x, .inl g⟩
  have dead : ∀ b, Own C b → ¬ Live σ ρ b := fun b hb => own_not_live R hb
  have Lkeep : ∀ o, hm.get? C.env.locals = some o → he.get? C.env.locals = some o := fun o e => keep _ o e (fun q => by
    rcases own_inner O q with q | ⟨_, _, y, _, _, q⟩
    · exact notCd _ o e q
    · exact ok.cl y (List.mem_of_getElem? q)) (dead _ (.inl rfl))
  -- a cell of the frame's: kept, or one of the comprehension's own
  have cellcase : ∀ x c, (x, some c) ∈ C.vt → (∃ j' i, cap[j']? = some i ∧ C.vt[i]? = some (x, some c)) ∨ ∀ v, hm.IsCell c v → he.IsCell c v := fun x c hx => by
    by_cases q : Own (inner C scope xs cap cl Cd) c
    · rcases own_inner O q with q | ⟨j', i, y, h1, _, h3⟩
      · obtain ⟨v, o, ho, _⟩ := RM.cells x c hx
        exact absurd q (notCd c o ho)
      · have := ok.cnd y x c (List.mem_of_getElem? h3) hx
        subst this
        exact .inl ⟨j', i, h1, h3⟩
    · exact .inr fun v ⟨o, ho, hd⟩ => ⟨o, keep c o ho q (dead c (.inr ⟨x, hx⟩)), hd⟩
  have vtin : ∀ (j' i : Nat), cap[j']? = some i → (inner C scope xs cap cl Cd).vt[xs.length + j']? = some ((C.vt[i]?).getD default) := fun j' i h1 => by
    unfold inner
    dsimp only
    rw [List.getElem?_append_right (by simp), List.getElem?_map]
    simp [h1]
  refine ⟨⟨m, RE.len, RE.inj, fun k l e => ?_, fun i v e => ?_, RM.ns.at' Lkeep, fun x c e => ?_, RE.glob, RE.liveg, RE.rin, fun a ha g => ?_, fun i a e => ?_, fun a o e => .inl (RE.gg a o e), fun a g => ?_⟩, T.ext, fun a ha => ?_, keepO, fun a g => ?_, fun a g => .inl (T.gm a g)⟩
  · obtain ⟨a, vs, n, h1, h2, h3⟩ := RE.muts k l e
    exact ⟨a, vs, n, h1, h2, RepDs.mono hLe hTe _ _ h3⟩
  · obtain ⟨x, c, v', h1, h2, h3⟩ := RM.locs i v e
    cases c with
    | none => exact ⟨x, none, v', h1, h2, h3.mono hLs hTs T.ext⟩
    | some c =>
      rcases cellcase x c (List.mem_of_getElem? h1) with ⟨j', i', q1, q2⟩ | q
      · have ii : i' = i := by
          rcases Nat.decEq i' i with z | z
          · exact absurd rfl (name_ne ok h1 q2 z)
          · exact z
        subst ii
        have lv : σe.loc[xs.length + j']? = some (some v) := by
          have : (σe.loc.drop xs.length)[j']? = (caps σ cap)[j']? := by rw [hloc]
          rw [List.getElem?_drop] at this
          rw [this]
          unfold caps
          rw [List.getElem?_map, q1]
          have e : σ.loc[i']? = some (some v) := e
          simp [e]
        obtain ⟨y, cc, v2, h4, h5, h6⟩ := RE.locs _ v lv
        rw [vtin j' i' q1, q2] at h4
        cases h4
        exact ⟨x, some c, v2, h1, h5, h6.mono hLe hTe ⟨[], by simp [Rho.plus]⟩⟩
      · exact ⟨x, some c, v', h1, q _ h2, h3.mono hLs hTs T.ext⟩
  · rcases cellcase x c e with ⟨j', i', q1, q2⟩ | q
    · have := List.mem_of_getElem? (vtin j' i' q1)
      rw [q2] at this
      exact RE.cells x c this
    · obtain ⟨v, hv⟩ := RM.cells x c e
      exact ⟨v, q v hv⟩
  · rcases g with g | g
    · exact RE.livegd a ha g
    · subst g; exact hDl ha
  · exact (RE.adg i a e).imp (fun g => .inl g) id
  · rcases g with g | g
    · exact RE.gin a g
    · subst g; exact ⟨o, hDo⟩
  · exact (T.live a ha).imp id (back a)
  · rcases g with g | g
    · rcases T.gd a g with q | q | q
      · exact .inl q
      · exact .inr (.inl q)
      · exact .inr (.inr (back a q))
    · subst g; exact .inr (.inr hD)
end
end
end Mine
end

section -- Fw11
open PySem PySem.W PySem.Calls PyProof.Rows
namespace Mine

section
variable {C : Cx} {σ : St}

/-- x for x in ..: what is gathered -/
noncomputable def CompK (C : Cx) (elt : Expr) : List D → St → (List D → St → Prop) → Prop
  | [], σ, K => K [] σ
  | x :: r, σ, K => Ev C elt (σ.setl 0 (.d x)) fun v σ1 => ∃ d, v = .d d ∧ CompK C elt r σ1 fun l σ2 => K (d :: l) σ2
noncomputable def CompK2 (C : Cx) (elt : Expr) (is : List Nat) : List (D × D) → St → (List D → St → Prop) → Prop
  | [], σ, K => K [] σ
  | (x, y) :: r, σ, K => Ev C elt (σ.setls is [.d x, .d y]) fun v σ1 => ∃ d, v = .d d ∧ CompK2 C elt is r σ1 fun l σ2 => K (d :: l) σ2

theorem Inv.hidRep {σ2 : St} {hm hj h' : Heap} {ρ2 ρj : Rho} {fp wr : List Addr} {S : Nat → Heap → Prop} {j : Nat} {σj : St} (V : Inv C σ2 hm ρ2 fp wr S j σj hj ρj)
    (hk : ∀ b o, b ∉ wr → hj.get? b = some o → h'.get? b = some o) {l : List D} {vs : List Value} (r : RepDs hj ρj.gd l vs) : RepDs h' ρj.gd l vs :=
  RepDs.mono (fun a _ _ x g => ⟨hk a _ (fun q => V.good a q g) x, g⟩) (fun a _ _ x g => ⟨hk a _ (fun q => V.good a q g) x, g⟩) _ _ r

section
variable {scope : Scope} {xs : List Str} {cap : List Nat} {capn : List Str} {cl : List (Str × Addr)} {Cd : Addr}

noncomputable def SA (S : Nat → Heap → Prop) (D : Addr) (acc : Array Value) (j : Nat) (h : Heap) : Prop := S j h ∧ h.PlainList D acc

/-- what is known where a comprehension's loop begins -/
structure Begun (C' : Cx) (σ2 : St) (hb h4 : Heap) (ρ2 : Rho) (D : Addr) (fp wr : List Addr) (S : Nat → Heap → Prop) : Prop where
  sub : ∀ b ∈ wr, b ∈ fp
  frame : ∀ i h h', S i h → (∀ b ∈ fp, ∀ o, h.get? b = some o → h'.get? b = some o) → S i h'
  ex : ∀ i h, S i h → ∀ b ∈ fp, ∃ o, h.get? b = some o
  fresh : ∀ b ∈ D :: wr, hb.get? b = none
  own : ∀ b ∈ D :: fp, ¬ Own C' b
  hbk : ∀ b o, hb.get? b = some o → h4.get? b = some o
  rel : Rel C' σ2 hb ρ2
  st : S 0 h4
  acc : h4.PlainList D #[]
  live : ∀ b ∈ D :: fp, ¬ Live σ2 ρ2 b
  good : ∀ b ∈ D :: wr, ¬ ρ2.gd b
  nD : D ∉ fp
section
variable {C' : Cx} {σ2 : St} {hb h4 : Heap} {ρ2 : Rho} {D : Addr} {fp wr : List Addr} {S : Nat → Heap → Prop}
theorem Begun.sub' (B : Begun C' σ2 hb h4 ρ2 D fp wr S) : ∀ b ∈ D :: wr, b ∈ D :: fp := fun b hb => by
  rcases List.mem_cons.mp hb with rfl | hb
  · exact List.mem_cons_self
  · exact List.mem_cons_of_mem _ (B.sub b hb)
theorem Begun.frame' (B : Begun C' σ2 hb h4 ρ2 D fp wr S) {acc : Array Value} : ∀ i h h', SA S D acc i h → (∀ b ∈ D :: fp, ∀ o, h.get? b = some o → h'.get? b = some o) → SA S D acc i h' := fun i h h' s hk =>
  ⟨B.frame i h h' s.1 fun b hb => hk b (List.mem_cons_of_mem _ hb), s.2.at fun o => hk D List.mem_cons_self o⟩
theorem Begun.ex' (B : Begun C' σ2 hb h4 ρ2 D fp wr S) {acc : Array Value} : ∀ i h, SA S D acc i h → ∀ b ∈ D :: fp, ∃ o, h.get? b = some o := fun i h s b hb => by
  rcases List.mem_cons.mp hb with rfl | hb
  · obtain ⟨n, q⟩ := s.2; exact ⟨_, q⟩
  · exact B.ex i h s.1 b hb
theorem Begun.inv (B : Begun C' σ2 hb h4 ρ2 D fp wr S) : Inv C' σ2 hb ρ2 (D :: fp) (D :: wr) (SA S D #[]) 0 σ2 h4 ρ2 := ⟨Step.grow B.rel B.hbk, ⟨B.st, B.acc⟩, B.live, B.good⟩
theorem Begun.nDw (B : Begun C' σ2 hb h4 ρ2 D fp wr S) : D ∉ wr := fun q => B.nD (B.sub D q)
end

theorem comp_loop1 {C' : Cx} (ok : CxOk C') {σ2 : St} {hb h4 : Heap} {tk4 : Nat} {ρ2 : Rho} {D I : Addr} {items : List Mine.D} {fp wr : List Addr} {P : Nat → Value → Prop} {S : Nat → Heap → Prop} {K : List Mine.D → St → Prop} {R : Result → Shared → Prop}
    {elt iter : Expr} {pos : Pos} {sc : Scope} {x : Str} {px : Pos} {c : Option Addr} (hx : C'.vt[0]? = some (x, c)) (hlen : items.length ≤ 1000000)
    (W : Walks C'.prog C'.w C'.A I fp wr items.length P S) (B : Begun C' σ2 hb h4 ρ2 D fp wr S)
    (rep : ∀ i v, i < items.length → P i v → ∃ x, items[i]? = some x ∧ RepD hb ρ2.gd x v)
    (k : CompK C' elt items σ2 K)
    (hR : ∀ he tke ρe σe acc ds, Step C' σ2 hb ρ2 σe he ρe → he.PlainList D acc → RepDs he ρe.gd ds acc.toList → ¬ Live σe ρe D → K ds σe → R (.ok .next) (C'.at he tke)) :
    codeAny (model C'.prog C'.w) C'.A (.compLoop (.ListComp elt [⟨.Name x px, iter, [], 0⟩] sc pos) 0 (.ref I) (.ref D) C'.env) R (C'.at h4 tk4) := by
  refine codeAny_compLoop_list (TurnC C' σ2 hb ρ2 (D :: fp) (D :: wr) (SA S D) items.length fun j ds σj => CompK C' elt (items.drop j) σj fun l σ => K (ds ++ l) σ) ?_ (items.length + 1)
    ⟨0, h4, tk4, ρ2, σ2, #[], [], rfl, rfl, Nat.zero_le _, B.inv, rfl, by simp [RepDs], by simpa using k⟩
  rintro n _ ⟨j, hj, tkj, ρj, σj, acc, ds, rfl, rfl, hle, V, hsz, hacc, kk⟩
  by_cases hlt : j < items.length
  · refine W.item j _ _ _ hlt V.st.1 fun v hN tkN hP stN hkN => ?_
    have keepO : ∀ b o, b ∉ D :: wr → hj.get? b = some o → hN.get? b = some o := fun b o hb => hkN b o fun q => hb (List.mem_cons_of_mem _ q)
    have V3 : Inv C' σ2 hb ρ2 (D :: fp) (D :: wr) (SA S D acc) (j + 1) σj hN ρj := V.turn B.sub' B.fresh B.own ⟨stN, V.st.2.at fun o => hkN D o B.nDw⟩ keepO B.rel
    have acc3 := V.hidRep keepO hacc
    rw [List.drop_eq_getElem_cons hlt] at kk
    obtain ⟨d0, hd0, rd0⟩ := rep j v hlt hP
    have rd0 := V3.step.repD B.rel rd0
    have hd' : items[j] = d0 := by rw [List.getElem?_eq_getElem hlt] at hd0; exact Option.some.inj hd0
    rw [hd'] at kk
    refine PyProof.Rows.assign_Name (mono' (store (i := 0) (v := .d d0) ok V3.step.rel hx rd0) ?_)
    refine Did.elim fun _ h5 tk5 S5 => ?_
    have V4 := V3.next B.sub' B.frame' B.ex' B.own S5
    refine mono' (kk h5 tk5 ρj _ S5.rel) ?_
    refine Post.elim fun v' h6 tk6 ρ6 v σ6 kk0 S6 r6 => ?_
    obtain ⟨d, rfl, k6⟩ := kk0
    have V5 := V4.next B.sub' B.frame' B.ex' B.own S6
    have acc5 := S6.repDs S5.rel (S5.repDs V3.step.rel acc3)
    refine wpAny_list_append_plain V5.st.2 (fun h7 hl7 hs7 => ?_) (by rw [sizeLine_eq]; lia)
    have k7 : ∀ b o, b ∉ D :: wr → h6.get? b = some o → h7.get? b = some o := fun b o hb e => hs7.extBut b o (fun q => hb (q ▸ List.mem_cons_self)) e
    have S7 := V5.hid B.sub' B.fresh B.own k7 B.rel
    refine ⟨items.length + 1 - (j + 1), by lia, ⟨j + 1, h7, tk6, ρ6, σ6, acc.push v', ds ++ [d], rfl, rfl, hlt, ⟨S7, ⟨B.frame _ _ _ V5.st.1 fun b hb o e => hs7.extBut b o (fun q => B.nD (q ▸ hb)) e, hl7⟩, V5.live, V5.good⟩, by simp [hsz], ?_, ?_⟩⟩
    · have r6 : RepDs h6 ρ6.gd [d] [v'] := by simp only [RepDs]; exact ⟨v', [], rfl, r6, rfl⟩
      have := V5.hidRep k7 (acc5.append r6)
      simpa using this
    · simpa [List.append_assoc] using k6
  · have e : j = items.length := by lia
    subst e
    refine W.done _ _ _ V.st.1 fun h3 tk3 hk3 => ?_
    have keepO : ∀ b o, b ∉ D :: wr → hj.get? b = some o → h3.get? b = some o := fun b o hb => hk3 b o fun q => hb (List.mem_cons_of_mem _ q)
    refine hR h3 tk3 ρj σj acc ds (V.hid B.sub' B.fresh B.own keepO B.rel) (V.st.2.at fun o => hk3 D o B.nDw) (V.hidRep keepO hacc) (V.live D List.mem_cons_self) ?_
    simpa [CompK] using kk

theorem comp_turns {prog : Program} {w : World} {A : Around} {elt target iter : Expr} {sc : Scope} {pos : Pos} {it acc : Value} {env : Env} {R : Result → Shared → Prop} {s : Shared} (J : Nat → Shared → Prop)
    (turn : ∀ n s, J n s → wpAny (model prog w) A (pyNext it) (fun r s₁ => match r with
      | none => R (.ok .next) s₁
      | some v => wpAny (model prog w) A (letOwnedTupleGo target it v) (fun _ s₂ => wpAny (model prog w) A (assign target env v) (fun _ s₃ => wpAny (model prog w) A (eval elt env) (fun x s₄ =>
          wpAny (model prog w) A (call (.builtin "list.append") [acc, x]) (fun _ s₅ => ∃ m, m < n ∧ J m s₅) (notedBy (model prog w) A env fun e s' => R (.error e) s') s₄)
          (notedBy (model prog w) A env fun e s' => R (.error e) s') s₃) (notedBy (model prog w) A env fun e s' => R (.error e) s') s₂) (notedBy (model prog w) A env fun e s' => R (.error e) s') s₁)
        (notedBy (model prog w) A env fun e s' => R (.error e) s') s)
    (n : Nat) (h : J n s) : codeAny (model prog w) A (.compLoop (.ListComp elt [⟨target, iter, [], 0⟩] sc pos) 0 it acc env) R s := by
  refine codeAny_loop rfl J (fun n s hJ => wpAny_noted ?_) n h
  have same : ∀ {α : Type} {t : Sem α} {Q Q' : α → Shared → Prop} {E : Value → Shared → Prop} {s : Shared}, wpAny (model prog w) A t Q E s → (∀ a s, Q a s → Q' a s) → wpAny (model prog w) A t Q' E s := fun x f => wpAny_mono x f fun _ _ q => q
  rw [compTurn_list1]
  refine wpAny_bind (wpAny_standAt (wpAny_bind (same (turn n s hJ) fun r s₁ h₁ => ?_)))
  match r, h₁ with
  | none, h₁ => exact wpAny_pure h₁
  | some v, h₁ => exact wpAny_bind (same h₁ fun _ _ h₂ => wpAny_bind (same h₂ fun _ _ h₃ => wpAny_bind (wpAny_bind (same h₃ fun _ _ h₄ => wpAny_bind (same h₄ fun _ _ h₅ => wpAny_pure (wpAny_pure ⟨rfl, h₅⟩))))))

theorem comp_loop2 {C' : Cx} (ok : CxOk C') {σ2 : St} {hb h4 : Heap} {tk4 : Nat} {ρ2 : Rho} {D I : Addr} {items : List (Mine.D × Mine.D)} {fp wr : List Addr} {P : Nat → Array Value → Prop} {S : Nat → Heap → Prop} {Mid : Nat → Addr → Heap → Prop} {K : List Mine.D → St → Prop} {R : Result → Shared → Prop}
    {elt iter : Expr} {pos : Pos} {sc : Scope} {es : List Expr} {is : List Nat} {kt : Nat} {tp : Pos} {ns : List Str} (hn : C'.names = ns) (ht : Tg ns es is) (h2 : es.length = 2) (hlen : items.length ≤ 1000000)
    (W : WalksT C'.prog C'.w C'.A I fp wr items.length P S Mid) (B : Begun C' σ2 hb h4 ρ2 D fp wr S)
    (rep : ∀ i vs, i < items.length → P i vs → ∃ x y v u, items[i]? = some (x, y) ∧ vs = #[v, u] ∧ RepD hb ρ2.gd x v ∧ RepD hb ρ2.gd y u)
    (k : CompK2 C' elt is items σ2 K)
    (hR : ∀ he tke ρe σe acc ds, Step C' σ2 hb ρ2 σe he ρe → he.PlainList D acc → RepDs he ρe.gd ds acc.toList → ¬ Live σe ρe D → K ds σe → R (.ok .next) (C'.at he tke)) :
    codeAny (model C'.prog C'.w) C'.A (.compLoop (.ListComp elt [⟨.Tuple es kt tp, iter, [], 0⟩] sc pos) 0 (.ref I) (.ref D) C'.env) R (C'.at h4 tk4) := by
  refine comp_turns (TurnC C' σ2 hb ρ2 (D :: fp) (D :: wr) (SA S D) items.length fun j ds σj => CompK2 C' elt is (items.drop j) σj fun l σ => K (ds ++ l) σ) ?_ (items.length + 1)
    ⟨0, h4, tk4, ρ2, σ2, #[], [], rfl, rfl, Nat.zero_le _, B.inv, rfl, by simp [RepDs], by simpa using k⟩
  rintro n _ ⟨j, hj, tkj, ρj, σj, acc, ds, rfl, rfl, hle, V, hsz, hacc, kk⟩
  by_cases hlt : j < items.length
  · refine W.item j _ _ _ hlt V.st.1 fun TT vals hM tkM hP hTs hT hmid hkM => ?_
    refine W.go _ _ _ j TT _ _ _ hmid fun hN stN hkG => ?_
    have hkN : ∀ b o, b ∉ wr → hj.get? b = some o → hN.get? b = some o := fun b o hb e => hkG b o hb (hkM b o hb e)
    have keepO : ∀ b o, b ∉ D :: wr → hj.get? b = some o → hN.get? b = some o := fun b o hb => hkN b o fun q => hb (List.mem_cons_of_mem _ q)
    have V3 : Inv C' σ2 hb ρ2 (D :: fp) (D :: wr) (SA S D acc) (j + 1) σj hN ρj := V.turn B.sub' B.fresh B.own ⟨stN, V.st.2.at fun o => hkN D o B.nDw⟩ keepO B.rel
    have acc3 := V.hidRep keepO hacc
    rw [List.drop_eq_getElem_cons hlt] at kk
    obtain ⟨x0, y0, v0, u0, hd0, rfl, rx, ry⟩ := rep j vals hlt hP
    have rx := V3.step.repD B.rel rx
    have ry := V3.step.repD B.rel ry
    have hd' : items[j] = (x0, y0) := by rw [List.getElem?_eq_getElem hlt] at hd0; exact Option.some.inj hd0
    rw [hd'] at kk
    have hT4 : hN.IsTuple TT #[v0, u0] := by
      obtain ⟨o, ho, r⟩ := hT
      exact ⟨o, hkG TT o (W.apart j TT hM hmid) ho, r⟩
    refine mono' (pair_stores (E := _) ok hn ht h2 V3.step.rel hT4 rx ry) ?_
    refine Did.elim fun _ h5 tk5 S5 => ?_
    have V4 := V3.next B.sub' B.frame' B.ex' B.own S5
    refine mono' (kk h5 tk5 ρj _ S5.rel) ?_
    refine Post.elim fun v' h6 tk6 ρ6 v σ6 kk0 S6 r6 => ?_
    obtain ⟨d, rfl, k6⟩ := kk0
    have V5 := V4.next B.sub' B.frame' B.ex' B.own S6
    have acc5 := S6.repDs S5.rel (S5.repDs V3.step.rel acc3)
    refine wpAny_list_append_plain V5.st.2 (fun h7 hl7 hs7 => ?_) (by rw [sizeLine_eq]; lia)
    have k7 : ∀ b o, b ∉ D :: wr → h6.get? b = some o → h7.get? b = some o := fun b o hb e => hs7.extBut b o (fun q => hb (q ▸ List.mem_cons_self)) e
    have S7 := V5.hid B.sub' B.fresh B.own k7 B.rel
    refine ⟨items.length + 1 - (j + 1), by lia, ⟨j + 1, h7, tk6, ρ6, σ6, acc.push v', ds ++ [d], rfl, rfl, hlt, ⟨S7, ⟨B.frame _ _ _ V5.st.1 fun b hb o e => hs7.extBut b o (fun q => B.nD (q ▸ hb)) e, hl7⟩, V5.live, V5.good⟩, by simp [hsz], ?_, ?_⟩⟩
    · have r6 : RepDs h6 ρ6.gd [d] [v'] := by simp only [RepDs]; exact ⟨v', [], rfl, r6, rfl⟩
      have := V5.hidRep k7 (acc5.append r6)
      simpa using this
    · simpa [List.append_assoc] using k6
  · have e : j = items.length := by lia
    subst e
    refine W.done _ _ _ V.st.1 fun h3 tk3 hk3 => ?_
    have keepO : ∀ b o, b ∉ D :: wr → hj.get? b = some o → h3.get? b = some o := fun b o hb => hk3 b o fun q => hb (List.mem_cons_of_mem _ q)
    refine hR h3 tk3 ρj σj acc ds (V.hid B.sub' B.fresh B.own keepO B.rel) (V.st.2.at fun o => hk3 D o B.nDw) (V.hidRep keepO hacc) (V.live D List.mem_cons_self) ?_
    simpa [CompK2] using kk

/-- the comprehension's own names let go -/
theorem Step.letgo {σ' : St} {hm he h' : Heap} {ρ ρ' : Rho} (S : Step C σ hm ρ σ' he ρ') (R : Rel C σ hm ρ) (hCd : hm.get? Cd = none) (hg : ¬ ρ'.gd Cd) (hl : ¬ Live σ' ρ' Cd) (hs : Heap.SameBut Cd he h') : Step C σ hm ρ σ' h' ρ' := by
  have no : ¬ Own C Cd := fun q => by obtain ⟨o, z, _⟩ := own_obj R q; rw [hCd] at z; cases z
  refine ⟨S.rel.move rfl (fun _ x => x) (fun _ x => .inl x) fun b o e q => hs.extBut b o (fun z => ?_) e, S.ext, S.live, fun b o e n l => hs.extBut b o (fun z => ?_) (S.keep b o e n l), S.gd, S.gm⟩
  · subst z
    rcases q with q | q | q | q
    · exact hg q
    · exact hl q
    · exact no q
    · obtain ⟨m, RM⟩ := R
      have := RM.glob b o q
      rw [hCd] at this; cases this
  · subst z; rw [hCd] at e; cases e
end
end
end Mine
end

section -- Fw12
open PySem PySem.W PySem.Calls PyProof.Rows
namespace Mine

section
variable {C : Cx} {σ : St} {scope : Scope} {cap : List Nat} {capn : List Str} {cl : List (Str × Addr)}

theorem Tg.app {ns : List Str} (r : List Str) : ∀ {es : List Expr} {is : List Nat}, Tg ns es is → Tg (ns ++ r) es is
  | _, _, .nil => .nil
  | _, _, .cons i hx h => .cons i (by rw [List.getElem?_append_left (List.getElem?_eq_some_iff.mp hx).1]; exact hx) (h.app r)

theorem comp_block1 {xs : List Str} (O : ScopeOk C scope xs cap capn) (ok : CxOk C) (hcl : ∀ (j : Nat) i y c, cap[j]? = some i → capn[j]? = some y → C.vt[i]? = some (y, some c) → cl.lookup y = some c)
    {σ2 : St} {hm h2 : Heap} {tk2 : Nat} {ρ2 : Rho} {I : Addr} {items : List D} {fp wr : List Addr} {P : Nat → Value → Prop} {S : Nat → Heap → Prop} {E : Value → Shared → Prop} {elt iter : Expr} {pos : Pos} {x : Str} {px : Pos} (hxs : xs[0]? = some x) {K : List D → St → Prop} {RR : Value → Addr → Result → Shared → Prop}
    (R2 : Rel C σ2 hm ρ2) (hk2 : ∀ b o, hm.get? b = some o → h2.get? b = some o) (T : It C σ2 hm h2 ρ2 I items fp wr P S) (hlen : items.length ≤ 1000000)
    (k : ∀ C', Sub C scope xs cap C' → CompK C' elt items (σ2.inn xs cap) fun ds σe => σe.loc.drop xs.length = caps σ2 cap ∧ K ds (σ2.out σe))
    (hRR : ∀ he tke ρe σe D Cd acc ds, Step C σ2 hm ρ2 (σ2.out σe) he (Rho.plus ρe D) → K ds (σ2.out σe) → he.PlainList D acc → RepDs he (Rho.plus ρe D).gd ds acc.toList → hm.get? Cd = none → ¬ (Rho.plus ρe D).gd Cd → ¬ Live (σ2.out σe) (Rho.plus ρe D) Cd → (∃ m, he.Ns Cd m) → RR (.ref D) Cd (.ok .next) (C.at he tke)) :
    wpAny (model C.prog C.w) C.A (newList []) (fun acc s3 => wpAny (model C.prog C.w) C.A (newFunctionEnv scope C.env.globals cl [] C.env.qual none .none (some C.env)) (fun cenv s4 =>
      codeAny (model C.prog C.w) C.A (.compStart (.ListComp elt [⟨.Name x px, iter, [], 0⟩] scope pos) 0 (.ref I) acc { cenv with scope := relabel scope C.env }) (RR acc cenv.locals) s4) E s3) E (C.at h2 tk2) := by
  refine wpAny_newObj_type (wpAny_newFunctionEnv O.cell (by intro y hy; simp at hy) (fun h4 hns hsb => ?_) O.kind)
  have eD : h2.objs.size = h2.objs.size := rfl
  generalize hDdef : h2.objs.size = D at *
  generalize hCdef : (h2.push { cls := .type "list", data := .seq #[] }).objs.size = Cd at *
  have hCD : @Eq Nat Cd (D + 1) := by rw [← hCdef, ← hDdef]; exact Heap.size_push _ _
  have h2D : h2.get? D = none := Heap.get?_none_of_le (Nat.le_of_eq hDdef)
  have h2C : h2.get? Cd = none := Heap.get?_none_of_le (by rw [hDdef]; show @LE.le Nat _ _ _; lia)
  have back : ∀ b, h2.get? b = none → hm.get? b = none := fun b e => by
    cases q : hm.get? b with
    | none => rfl
    | some o => rw [hk2 b o q] at e; cases e
  have k24 : ∀ b o, h2.get? b = some o → h4.get? b = some o := fun b o e => hsb.extBut b o (fun q => by subst q; rw [h2C] at e; cases e) (Heap.get?_push_of_some _ (Heap.get?_push_of_some _ e))
  have hD4 : h4.PlainList D #[] := by
    refine ⟨0, hsb.extBut D _ (fun q => by have q : @Eq Nat D Cd := q; lia) (Heap.get?_push_of_some _ ?_)⟩
    rw [← hDdef]; exact Heap.get?_push_size _ rfl
  have exfp : ∀ b ∈ fp, ∃ o, h2.get? b = some o := T.ex 0 h2 T.st
  have nD : D ∉ fp := fun q => by obtain ⟨o, z⟩ := exfp D q; rw [h2D] at z; cases z
  have nC : Cd ∉ D :: wr := fun q => by
    rcases List.mem_cons.mp q with q | q
    · have q : @Eq Nat Cd D := q; lia
    · obtain ⟨o, z⟩ := exfp Cd (T.W.sub Cd q); rw [h2C] at z; cases z
  have hmwr : ∀ b o, hm.get? b = some o → b ∉ D :: wr := fun b o e q => by
    rcases List.mem_cons.mp q with q | q
    · subst q; rw [back _ h2D] at e; cases e
    · rw [T.fresh b q] at e; cases e
  have hbm : ∀ b o, hm.get? b = some o → (hideAll h4 (D :: wr)).get? b = some o := fun b o e => hideAll_get _ (k24 b o (hk2 b o e)) (hmwr b o e)
  have hns' : (hideAll h4 (D :: wr)).Ns Cd (fun x => List.lookup x ([] : List (Str × Value)).reverse) := hns.at' fun o e => hideAll_get _ e nC
  have R' : Rel (inner C scope xs cap cl Cd) (σ2.inn xs cap) (hideAll h4 (D :: wr)) ρ2 := rel_in O R2 hbm hns'
  have SB := inner_ok (cl := cl) (Cd := Cd) O ok R2 (back _ h2C) hcl
  have ownC : ∀ b, Own C b → ∃ o, hm.get? b = some o := fun b q => by obtain ⟨o, z, _⟩ := own_obj R2 q; exact ⟨o, z⟩
  have B : Begun (inner C scope xs cap cl Cd) (σ2.inn xs cap) (hideAll h4 (D :: wr)) h4 ρ2 D fp wr S := by
    refine ⟨T.W.sub, T.W.frame, T.ex, fun b hb => hideAll_none _ hb, fun b hb q => ?_, fun b o e => of_hideAll _ e, R', T.W.frame _ _ _ T.st fun b _ o e => k24 b o e, hD4, fun b hb q => ?_, fun b hb g => ?_, nD⟩
    · rcases own_inner' O q with q | q
      · subst q
        rcases List.mem_cons.mp hb with z | z
        · have z : @Eq Nat b D := z; lia
        · obtain ⟨o, w⟩ := exfp b z; rw [h2C] at w; cases w
      · rcases List.mem_cons.mp hb with z | z
        · subst z; obtain ⟨o, w⟩ := ownC _ q; rw [back _ h2D] at w; cases w
        · exact T.own b z q
    · have q : Live σ2 ρ2 b := q
      rcases List.mem_cons.mp hb with z | z
      · subst z; obtain ⟨_, _, w⟩ := live_obj R2 q; cases (back _ h2D).symm.trans w
      · exact T.live b z q
    · rcases List.mem_cons.mp hb with z | z
      · subst z; obtain ⟨m, RM⟩ := R2; obtain ⟨o, w⟩ := RM.gin _ g; rw [back _ h2D] at w; cases w
      · exact T.good b z g
  have loop : codeAny (model C.prog C.w) C.A (.compLoop (.ListComp elt [⟨.Name x px, iter, [], 0⟩] scope pos) 0 (.ref I) (.ref D) (inner C scope xs cap cl Cd).env) (RR (.ref D) Cd) ((inner C scope xs cap cl Cd).at h4 (tk2 + ([] : List (Str × Value)).length)) := by
    refine comp_loop1 (C' := inner C scope xs cap cl Cd) SB.ok (W := T.W) (B := B) (x := x) (c := none) (hx := by simp [inner, hxs, List.getElem?_append_left (by simpa using (List.getElem?_eq_some_iff.mp hxs).1 : 0 < (xs.map fun x => (x, (none : Option Addr))).length)]) hlen ?_ (k _ SB) ?_
    · intro i v hi hP
      obtain ⟨x, hx, rx⟩ := T.rep i v hi hP
      exact ⟨x, hx, RepD.mono (fun a _ _ z g => ⟨hbm _ _ z, g⟩) (fun a _ _ z g => ⟨hbm _ _ z, g⟩) _ _ rx⟩
    · intro he tke ρe σe acc ds TS hacc hds hlD ⟨hloc, hK⟩
      obtain ⟨nn, hD⟩ := id hacc
      have hCb : ∃ o, (hideAll h4 (D :: wr)).get? Cd = some o := by obtain ⟨o, _, _, z, _⟩ := hns'; exact ⟨o, z⟩
      have ST := step_out O ok R2 (back _ h2C) hCb (back _ h2D) hbm TS hloc hD hlD
      have ncl : ¬ Live σ2 ρ2 Cd := fun q => by obtain ⟨_, _, w⟩ := live_obj R2 q; cases (back _ h2C).symm.trans w
      refine hRR he tke ρe σe D Cd acc ds ST hK hacc (RepDs.mono (fun a _ _ x g => ⟨x, .inl g⟩) (fun a _ _ x g => ⟨x, .inl g⟩) _ _ hds) (back _ h2C) ?_ ?_ ?_
      · rintro (g | g)
        · obtain ⟨o, w⟩ := hCb
          rcases TS.gd Cd g with q | q | q
          · obtain ⟨m, RM⟩ := R2; obtain ⟨o, w⟩ := RM.gin _ q; rw [back _ h2C] at w; cases w
          · exact ncl q
          · rw [q] at w; cases w
        · have g : @Eq Nat Cd D := g; lia
      · intro q
        obtain ⟨o, w⟩ := hCb
        rcases TS.live Cd q with q | q
        · exact ncl q
        · rw [q] at w; cases w
      · obtain ⟨m, RE⟩ := TS.rel
        exact ⟨m, RE.ns⟩
  refine codeAny_compStart_list ?_ ?_
  · exact loop
  · exact T.W.self 0 _ _ _ B.st loop

theorem comp_block2 {xs : List Str} (O : ScopeOk C scope xs cap capn) (ok : CxOk C) (hcl : ∀ (j : Nat) i y c, cap[j]? = some i → capn[j]? = some y → C.vt[i]? = some (y, some c) → cl.lookup y = some c)
    {σ2 : St} {hm h2 : Heap} {tk2 : Nat} {ρ2 : Rho} {I : Addr} {items : List (D × D)} {fp wr : List Addr} {P : Nat → Array Value → Prop} {S : Nat → Heap → Prop} {Mid : Nat → Addr → Heap → Prop} {E : Value → Shared → Prop} {elt iter : Expr} {pos : Pos} {es : List Expr} {is : List Nat} {kt : Nat} {tp : Pos} (ht : Tg xs es is) (h2e : es.length = 2) {K : List D → St → Prop} {RR : Value → Addr → Result → Shared → Prop}
    (R2 : Rel C σ2 hm ρ2) (hk2 : ∀ b o, hm.get? b = some o → h2.get? b = some o) (T : It2 C σ2 hm h2 ρ2 I items fp wr P S Mid) (hlen : items.length ≤ 1000000)
    (k : ∀ C', Sub C scope xs cap C' → CompK2 C' elt is items (σ2.inn xs cap) fun ds σe => σe.loc.drop xs.length = caps σ2 cap ∧ K ds (σ2.out σe))
    (hRR : ∀ he tke ρe σe D Cd acc ds, Step C σ2 hm ρ2 (σ2.out σe) he (Rho.plus ρe D) → K ds (σ2.out σe) → he.PlainList D acc → RepDs he (Rho.plus ρe D).gd ds acc.toList → hm.get? Cd = none → ¬ (Rho.plus ρe D).gd Cd → ¬ Live (σ2.out σe) (Rho.plus ρe D) Cd → (∃ m, he.Ns Cd m) → RR (.ref D) Cd (.ok .next) (C.at he tke)) :
    wpAny (model C.prog C.w) C.A (newList []) (fun acc s3 => wpAny (model C.prog C.w) C.A (newFunctionEnv scope C.env.globals cl [] C.env.qual none .none (some C.env)) (fun cenv s4 =>
      codeAny (model C.prog C.w) C.A (.compStart (.ListComp elt [⟨.Tuple es kt tp, iter, [], 0⟩] scope pos) 0 (.ref I) acc { cenv with scope := relabel scope C.env }) (RR acc cenv.locals) s4) E s3) E (C.at h2 tk2) := by
  refine wpAny_newObj_type (wpAny_newFunctionEnv O.cell (by intro y hy; simp at hy) (fun h4 hns hsb => ?_) O.kind)
  have eD : h2.objs.size = h2.objs.size := rfl
  generalize hDdef : h2.objs.size = D at *
  generalize hCdef : (h2.push { cls := .type "list", data := .seq #[] }).objs.size = Cd at *
  have hCD : @Eq Nat Cd (D + 1) := by rw [← hCdef, ← hDdef]; exact Heap.size_push _ _
  have h2D : h2.get? D = none := Heap.get?_none_of_le (Nat.le_of_eq hDdef)
  have h2C : h2.get? Cd = none := Heap.get?_none_of_le (by rw [hDdef]; show @LE.le Nat _ _ _; lia)
  have back : ∀ b, h2.get? b = none → hm.get? b = none := fun b e => by
    cases q : hm.get? b with
    | none => rfl
    | some o => rw [hk2 b o q] at e; cases e
  have k24 : ∀ b o, h2.get? b = some o → h4.get? b = some o := fun b o e => hsb.extBut b o (fun q => by subst q; rw [h2C] at e; cases e) (Heap.get?_push_of_some _ (Heap.get?_push_of_some _ e))
  have hD4 : h4.PlainList D #[] := by
    refine ⟨0, hsb.extBut D _ (fun q => by have q : @Eq Nat D Cd := q; lia) (Heap.get?_push_of_some _ ?_)⟩
    rw [← hDdef]; exact Heap.get?_push_size _ rfl
  have exfp : ∀ b ∈ fp, ∃ o, h2.get? b = some o := T.ex 0 h2 T.st
  have nD : D ∉ fp := fun q => by obtain ⟨o, z⟩ := exfp D q; rw [h2D] at z; cases z
  have nC : Cd ∉ D :: wr := fun q => by
    rcases List.mem_cons.mp q with q | q
    · have q : @Eq Nat Cd D := q; lia
    · obtain ⟨o, z⟩ := exfp Cd (T.W.sub Cd q); rw [h2C] at z; cases z
  have hmwr : ∀ b o, hm.get? b = some o → b ∉ D :: wr := fun b o e q => by
    rcases List.mem_cons.mp q with q | q
    · subst q; rw [back _ h2D] at e; cases e
    · rw [T.fresh b q] at e; cases e
  have hbm : ∀ b o, hm.get? b = some o → (hideAll h4 (D :: wr)).get? b = some o := fun b o e => hideAll_get _ (k24 b o (hk2 b o e)) (hmwr b o e)
  have hns' : (hideAll h4 (D :: wr)).Ns Cd (fun x => List.lookup x ([] : List (Str × Value)).reverse) := hns.at' fun o e => hideAll_get _ e nC
  have R' : Rel (inner C scope xs cap cl Cd) (σ2.inn xs cap) (hideAll h4 (D :: wr)) ρ2 := rel_in O R2 hbm hns'
  have SB := inner_ok (cl := cl) (Cd := Cd) O ok R2 (back _ h2C) hcl
  have ownC : ∀ b, Own C b → ∃ o, hm.get? b = some o := fun b q => by obtain ⟨o, z, _⟩ := own_obj R2 q; exact ⟨o, z⟩
  have B : Begun (inner C scope xs cap cl Cd) (σ2.inn xs cap) (hideAll h4 (D :: wr)) h4 ρ2 D fp wr S := by
    refine ⟨T.W.sub, T.W.frame, T.ex, fun b hb => hideAll_none _ hb, fun b hb q => ?_, fun b o e => of_hideAll _ e, R', T.W.frame _ _ _ T.st fun b _ o e => k24 b o e, hD4, fun b hb q => ?_, fun b hb g => ?_, nD⟩
    · rcases own_inner' O q with q | q
      · subst q
        rcases List.mem_cons.mp hb with z | z
        · have z : @Eq Nat b D := z; lia
        · obtain ⟨o, w⟩ := exfp b z; rw [h2C] at w; cases w
      · rcases List.mem_cons.mp hb with z | z
        · subst z; obtain ⟨o, w⟩ := ownC _ q; rw [back _ h2D] at w; cases w
        · exact T.own b z q
    · have q : Live σ2 ρ2 b := q
      rcases List.mem_cons.mp hb with z | z
      · subst z; obtain ⟨_, _, w⟩ := live_obj R2 q; cases (back _ h2D).symm.trans w
      · exact T.live b z q
    · rcases List.mem_cons.mp hb with z | z
      · subst z; obtain ⟨m, RM⟩ := R2; obtain ⟨o, w⟩ := RM.gin _ g; rw [back _ h2D] at w; cases w
      · exact T.good b z g
  have loop : codeAny (model C.prog C.w) C.A (.compLoop (.ListComp elt [⟨.Tuple es kt tp, iter, [], 0⟩] scope pos) 0 (.ref I) (.ref D) (inner C scope xs cap cl Cd).env) (RR (.ref D) Cd) ((inner C scope xs cap cl Cd).at h4 (tk2 + ([] : List (Str × Value)).length)) := by
    refine comp_loop2 (C' := inner C scope xs cap cl Cd) SB.ok (W := T.W) (B := B) (hn := inner_names O) (ht := ht.app capn) (h2 := h2e) hlen ?_ (k _ SB) ?_
    · intro i vs hi hP
      obtain ⟨x, y, v, u, hx, hvs, rx, ry⟩ := T.rep i vs hi hP
      exact ⟨x, y, v, u, hx, hvs, RepD.mono (fun a _ _ z g => ⟨hbm _ _ z, g⟩) (fun a _ _ z g => ⟨hbm _ _ z, g⟩) _ _ rx, RepD.mono (fun a _ _ z g => ⟨hbm _ _ z, g⟩) (fun a _ _ z g => ⟨hbm _ _ z, g⟩) _ _ ry⟩
    · intro he tke ρe σe acc ds TS hacc hds hlD ⟨hloc, hK⟩
      obtain ⟨nn, hD⟩ := id hacc
      have hCb : ∃ o, (hideAll h4 (D :: wr)).get? Cd = some o := by obtain ⟨o, _, _, z, _⟩ := hns'; exact ⟨o, z⟩
      have ST := step_out O ok R2 (back _ h2C) hCb (back _ h2D) hbm TS hloc hD hlD
      have ncl : ¬ Live σ2 ρ2 Cd := fun q => by obtain ⟨_, _, w⟩ := live_obj R2 q; cases (back _ h2C).symm.trans w
      refine hRR he tke ρe σe D Cd acc ds ST hK hacc (RepDs.mono (fun a _ _ x g => ⟨x, .inl g⟩) (fun a _ _ x g => ⟨x, .inl g⟩) _ _ hds) (back _ h2C) ?_ ?_ ?_
      · rintro (g | g)
        · obtain ⟨o, w⟩ := hCb
          rcases TS.gd Cd g with q | q | q
          · obtain ⟨m, RM⟩ := R2; obtain ⟨o, w⟩ := RM.gin _ q; rw [back _ h2C] at w; cases w
          · exact ncl q
          · rw [q] at w; cases w
        · have g : @Eq Nat Cd D := g; lia
      · intro q
        obtain ⟨o, w⟩ := hCb
        rcases TS.live Cd q with q | q
        · exact ncl q
        · rw [q] at w; cases w
      · obtain ⟨m, RE⟩ := TS.rel
        exact ⟨m, RE.ns⟩
  refine codeAny_compStart_list ?_ ?_
  · exact loop
  · exact T.W.self 0 _ _ _ B.st loop

/-- a comprehension -/
theorem Ev.comp1 {K : V → St → Prop} {elt iter : Expr} {x : Str} {px : Pos} {pos : Pos} {xs : List Str} (O : ScopeOk C scope xs cap capn) (ok : CxOk C) (hxs : xs[0]? = some x)
    (h : EvI C iter σ fun items σ2 => items.length ≤ 1000000 ∧ ∀ C', Sub C scope xs cap C' → CompK C' elt items (σ2.inn xs cap) fun ds σe => σe.loc.drop xs.length = caps σ2 cap ∧ K (.d (.list ds)) (σ2.out σe))
    (hs : ∀ x, foldedSetIterable iter C.env x = pure x := by intro _; rfl) : Ev C (.ListComp elt [⟨.Name x px, iter, [], 0⟩] scope pos) σ K := fun hp tk ρ E R => by
  obtain ⟨cl, hclos, hcl⟩ := O.closure ok
  refine wpAny_comprehension_free (g := ⟨.Name x px, iter, [], 0⟩) (gs := []) (use := none) rfl hs hclos O.kind O.names (mono' (h hp tk ρ E R) fun x' s1 h1 => mono' h1 ?_)
  rintro it _ ⟨hm, h2, tk2, ρ2, σ2, items, I, fp, wr, P, S, rfl, ⟨hlen, k2⟩, S2, hk2, rfl, T⟩
  refine comp_block1 (hxs := hxs) O ok hcl S2.rel hk2 T hlen (K := fun ds σ' => K (.d (.list ds)) σ') (RR := compPost _ C.A E none (Post C σ hp ρ Rep K)) k2 ?_
  intro he tke ρe σe D Cd acc ds ST hK hacc hds hCm hCg hCl hNs
  obtain ⟨m, hNs⟩ := hNs
  refine ⟨m, hNs, fun h' hs' => ?_⟩
  have ST2 := ST.letgo S2.rel hCm hCg hCl hs'
  have hDC : D ≠ Cd := fun q => hCg (.inr q.symm)
  obtain ⟨n, hD⟩ := hacc
  refine ⟨h', tke, _, _, _, rfl, hK, S2.trans ST2, ?_⟩
  simp only [Rep, RepD]
  refine ⟨D, acc, n, rfl, hs'.extBut D _ hDC hD, .inr rfl, ?_⟩
  exact RepDs.mono (fun a _ _ x g => ⟨hs'.extBut a _ (fun q => hCg (q ▸ g)) x, g⟩) (fun a _ _ x g => ⟨hs'.extBut a _ (fun q => hCg (q ▸ g)) x, g⟩) _ _ hds

/-- a name that gets a comprehension -/
theorem Ex.setComp1 {K : Fl → St → Prop} {elt iter : Expr} {x : Str} {px : Pos} {pos py spos : Pos} {y : Str} {ns : List Str} {xs : List Str} (i : Nat) (O : ScopeOk C scope xs cap capn) (ok : CxOk C) (hn : C.names = ns) (hy : ns[i]? = some y) (hxs : xs[0]? = some x)
    (h : EvI C iter σ fun items σ2 => items.length ≤ 1000000 ∧ ∀ C', Sub C scope xs cap C' → CompK C' elt items (σ2.inn xs cap) fun ds σe => σe.loc.drop xs.length = caps σ2 cap ∧ K .next ((σ2.out σe).setl i (.d (.list ds))))
    (hsw : swapsWith (.ListComp elt [⟨.Name x px, iter, [], 0⟩] scope pos) (some (.Name y py)) spos.line C.env = pure true)
    (hs : ∀ x, foldedSetIterable iter C.env x = pure x := by intro _; rfl) : Ex C (.Assign [.Name y py] (.ListComp elt [⟨.Name x px, iter, [], 0⟩] scope pos) spos) σ K := fun hp tk ρ E R => by
  obtain ⟨cl, hclos, hcl⟩ := O.closure ok
  obtain ⟨c, hv⟩ := vt_of hn hy
  rw [exec_Assign_Name_used _ _ _ _ hsw]
  refine wpAny_bind (wpAny_standAt (wpAny_bind ?_))
  show wpAny _ C.A (do let _ ← comprehension (.ListComp elt [⟨.Name x px, iter, [], 0⟩] scope pos) scope C.env _ (newList []) false (eval iter C.env) (some (assign (.Name y py) C.env))) _ _ _
  refine wpAny_bind (mono' (wpAny_comprehension_free (g := ⟨.Name x px, iter, [], 0⟩) (gs := []) (use := some (assign (.Name y py) C.env)) (Q := fun _ s' => Post C σ hp ρ repF K .next s') rfl hs hclos O.kind O.names (mono' (h hp tk ρ E R) fun x' s1 h1 => mono' h1 ?_)) fun _ s' hq => wpAny_pure (wpAny_pure hq))
  rintro it _ ⟨hm, h2, tk2, ρ2, σ2, items, I, fp, wr, P, S, rfl, ⟨hlen, k2⟩, S2, hk2, rfl, T⟩
  refine comp_block1 (hxs := hxs) O ok hcl S2.rel hk2 T hlen (K := fun ds σ' => K .next (σ'.setl i (.d (.list ds)))) (RR := compPost _ C.A E (some (assign (.Name y py) C.env)) (fun _ s' => Post C σ hp ρ repF K .next s')) k2 ?_
  intro he tke ρe σe D Cd acc ds ST hK hacc hds hCm hCg hCl hNs
  obtain ⟨m, hNs⟩ := hNs
  obtain ⟨n, hD⟩ := hacc
  have rD : Rep he (Rho.plus ρe D) (.d (.list ds)) (.ref D) := by
    simp only [Rep, RepD]
    exact ⟨D, acc, n, rfl, hD, .inr rfl, hds⟩
  refine PyProof.Rows.assign_Name (mono' (store (i := i) ok ST.rel hv rD) ?_)
  refine Did.elim fun _ h5 tk5 S5 => ?_
  have noC : ¬ Own C Cd := fun q => by obtain ⟨o, z, _⟩ := own_obj S2.rel q; rw [hCm] at z; cases z
  refine ⟨m, hNs.at' fun o e => S5.keep Cd o e noC hCl, fun h' hs' => ?_⟩
  have ST2 := (ST.trans S5).letgo S2.rel hCm hCg hCl hs'
  exact ⟨h', tk5, _, .next, _, rfl, hK, S2.trans ST2, rfl⟩

/-- a comprehension -/
theorem Ev.comp2 {K : V → St → Prop} {elt iter : Expr} {es : List Expr} {is : List Nat} {kt : Nat} {tp : Pos} {pos : Pos} {xs : List Str} (O : ScopeOk C scope xs cap capn) (ok : CxOk C) (ht : Tg xs es is) (h2e : es.length = 2)
    (h : EvI2 C iter σ fun items σ2 => items.length ≤ 1000000 ∧ ∀ C', Sub C scope xs cap C' → CompK2 C' elt is items (σ2.inn xs cap) fun ds σe => σe.loc.drop xs.length = caps σ2 cap ∧ K (.d (.list ds)) (σ2.out σe))
    (hs : ∀ x, foldedSetIterable iter C.env x = pure x := by intro _; rfl) : Ev C (.ListComp elt [⟨.Tuple es kt tp, iter, [], 0⟩] scope pos) σ K := fun hp tk ρ E R => by
  obtain ⟨cl, hclos, hcl⟩ := O.closure ok
  refine wpAny_comprehension_free (g := ⟨.Tuple es kt tp, iter, [], 0⟩) (gs := []) (use := none) rfl hs hclos O.kind O.names (mono' (h hp tk ρ E R) fun x' s1 h1 => mono' h1 ?_)
  rintro it _ ⟨hm, h2, tk2, ρ2, σ2, items, I, fp, wr, P, S, Mid, rfl, ⟨hlen, k2⟩, S2, hk2, rfl, T⟩
  refine comp_block2 (ht := ht) (h2e := h2e) O ok hcl S2.rel hk2 T hlen (K := fun ds σ' => K (.d (.list ds)) σ') (RR := compPost _ C.A E none (Post C σ hp ρ Rep K)) k2 ?_
  intro he tke ρe σe D Cd acc ds ST hK hacc hds hCm hCg hCl hNs
  obtain ⟨m, hNs⟩ := hNs
  refine ⟨m, hNs, fun h' hs' => ?_⟩
  have ST2 := ST.letgo S2.rel hCm hCg hCl hs'
  have hDC : D ≠ Cd := fun q => hCg (.inr q.symm)
  obtain ⟨n, hD⟩ := hacc
  refine ⟨h', tke, _, _, _, rfl, hK, S2.trans ST2, ?_⟩
  simp only [Rep, RepD]
  refine ⟨D, acc, n, rfl, hs'.extBut D _ hDC hD, .inr rfl, ?_⟩
  exact RepDs.mono (fun a _ _ x g => ⟨hs'.extBut a _ (fun q => hCg (q ▸ g)) x, g⟩) (fun a _ _ x g => ⟨hs'.extBut a _ (fun q => hCg (q ▸ g)) x, g⟩) _ _ hds

/-- a name that gets a comprehension -/
theorem Ex.setComp2 {K : Fl → St → Prop} {elt iter : Expr} {es : List Expr} {is : List Nat} {kt : Nat} {tp : Pos} {pos py spos : Pos} {y : Str} {ns : List Str} {xs : List Str} (i : Nat) (O : ScopeOk C scope xs cap capn) (ok : CxOk C) (hn : C.names = ns) (hy : ns[i]? = some y) (ht : Tg xs es is) (h2e : es.length = 2)
    (h : EvI2 C iter σ fun items σ2 => items.length ≤ 1000000 ∧ ∀ C', Sub C scope xs cap C' → CompK2 C' elt is items (σ2.inn xs cap) fun ds σe => σe.loc.drop xs.length = caps σ2 cap ∧ K .next ((σ2.out σe).setl i (.d (.list ds))))
    (hsw : swapsWith (.ListComp elt [⟨.Tuple es kt tp, iter, [], 0⟩] scope pos) (some (.Name y py)) spos.line C.env = pure true)
    (hs : ∀ x, foldedSetIterable iter C.env x = pure x := by intro _; rfl) : Ex C (.Assign [.Name y py] (.ListComp elt [⟨.Tuple es kt tp, iter, [], 0⟩] scope pos) spos) σ K := fun hp tk ρ E R => by
  obtain ⟨cl, hclos, hcl⟩ := O.closure ok
  obtain ⟨c, hv⟩ := vt_of hn hy
  rw [exec_Assign_Name_used _ _ _ _ hsw]
  refine wpAny_bind (wpAny_standAt (wpAny_bind ?_))
  show wpAny _ C.A (do let _ ← comprehension (.ListComp elt [⟨.Tuple es kt tp, iter, [], 0⟩] scope pos) scope C.env _ (newList []) false (eval iter C.env) (some (assign (.Name y py) C.env))) _ _ _
  refine wpAny_bind (mono' (wpAny_comprehension_free (g := ⟨.Tuple es kt tp, iter, [], 0⟩) (gs := []) (use := some (assign (.Name y py) C.env)) (Q := fun _ s' => Post C σ hp ρ repF K .next s') rfl hs hclos O.kind O.names (mono' (h hp tk ρ E R) fun x' s1 h1 => mono' h1 ?_)) fun _ s' hq => wpAny_pure (wpAny_pure hq))
  rintro it _ ⟨hm, h2, tk2, ρ2, σ2, items, I, fp, wr, P, S, Mid, rfl, ⟨hlen, k2⟩, S2, hk2, rfl, T⟩
  refine comp_block2 (ht := ht) (h2e := h2e) O ok hcl S2.rel hk2 T hlen (K := fun ds σ' => K .next (σ'.setl i (.d (.list ds)))) (RR := compPost _ C.A E (some (assign (.Name y py) C.env)) (fun _ s' => Post C σ hp ρ repF K .next s')) k2 ?_
  intro he tke ρe σe D Cd acc ds ST hK hacc hds hCm hCg hCl hNs
  obtain ⟨m, hNs⟩ := hNs
  obtain ⟨n, hD⟩ := hacc
  have rD : Rep he (Rho.plus ρe D) (.d (.list ds)) (.ref D) := by
    simp only [Rep, RepD]
    exact ⟨D, acc, n, rfl, hD, .inr rfl, hds⟩
  refine PyProof.Rows.assign_Name (mono' (store (i := i) ok ST.rel hv rD) ?_)
  refine Did.elim fun _ h5 tk5 S5 => ?_
  have noC : ¬ Own C Cd := fun q => by obtain ⟨o, z, _⟩ := own_obj S2.rel q; rw [hCm] at z; cases z
  refine ⟨m, hNs.at' fun o e => S5.keep Cd o e noC hCl, fun h' hs' => ?_⟩
  have ST2 := (ST.trans S5).letgo S2.rel hCm hCg hCl hs'
  exact ⟨h', tk5, _, .next, _, rfl, hK, S2.trans ST2, rfl⟩
end
end Mine
end

section -- Fw13
open PySem PySem.W PySem.Calls PyProof.Rows
namespace Mine

/-- the module, as its top left it -/
structure Gl where
  prog : Program
  w : World
  g : Heap
  mg : Str → Option Value
  mb : Str → Option Value

/-- lists lent to a call -/
structure Bor (g : Heap) (mu : List (List D)) (h : Heap) (ρ : Rho) : Prop where
  len : ρ.ad.length = mu.length
  inj : ∀ (i j : Nat) (a : Addr), ρ.ad[i]? = some a → ρ.ad[j]? = some a → i = j
  muts : ∀ (k : Nat) (l : List D), mu[k]? = some l → ∃ a vs n, ρ.ad[k]? = some a ∧ IsL h a vs n ∧ RepDs h ρ.gd l vs.toList
  glob : ∀ b o, g.get? b = some o → h.get? b = some o
  liveg : ∀ a ∈ ρ.ad, g.get? a = none
  livegd : ∀ a ∈ ρ.ad, ¬ ρ.gd a
  gg : ∀ a o, g.get? a = some o → ρ.gd a
  gin : ∀ a, ρ.gd a → ∃ o, h.get? a = some o

inductive Ret (G : Gl) (ρ : Rho) (ret : D) (mu' : List (List D)) (s : Shared) (v' : Value) (s' : Shared) : Prop where
  | mk (h' : Heap) (tk' : Nat) (gd' : Addr → Prop) (e : s' = { s with heap := h', toks := tk' }) (B : Bor G.g mu' h' ⟨ρ.ad, gd'⟩) (hk : ∀ b o, s.heap.get? b = some o → b ∉ ρ.ad → h'.get? b = some o)
    (hg : ∀ a, ρ.gd a → gd' a) (hg2 : ∀ a, gd' a → ρ.gd a ∨ s.heap.get? a = none) (r : RepD h' gd' ret v')

/-- what a def does: its arguments, the lists lent to it, what it hands back, the lists behind it -/
structure Fn (G : Gl) (lev : Nat) (f : Addr) (args : List V) (mu : List (List D)) (ret : D) (mu' : List (List D)) : Prop where
  isFun : Fun G.g (.ref f)
  run : ∀ (A : Around) (s : Shared) (ρ : Rho) (args' : List Value) (E : Value → Shared → Prop), A.handled = none → A.guards = some [] → A.depth + lev < recursionLimit → A.units + 8 * lev + 8 < cLine → Bor G.g mu s.heap ρ → Reps s.heap ρ args args' →
    wpAny (model G.prog G.w) A (PySem.call (.ref f) args') (Ret G ρ ret mu' s) E s

/-- what is known in a def's frame -/
structure In (G : Gl) (n : Nat) (sh : List (Str × Bool)) (gn : List Str) (C : Cx) : Prop where
  ok : CxOk C
  shape : C.shape = sh
  glo : ∀ y, y ∈ gn → C.env.kindOf y = some .globalImplicit
  prog : C.prog = G.prog
  w : C.w = G.w
  g : C.g = G.g
  mg : C.mg = G.mg
  mb : C.mb = G.mb
  dep : C.A.depth + n < recursionLimit
  uni : C.A.units + 8 * n + 8 < cLine
  grd : C.A.guards = some []

section
variable {G : Gl} {n : Nat} {sh : List (Str × Bool)} {gn : List Str} {C : Cx} {σ : St}
theorem In.sub {scope : Scope} {xs : List Str} {cap : List Nat} {C' : Cx} (H : In G n sh gn C) (S : Sub C scope xs cap C') (gn' : List Str) (sh' : List (Str × Bool)) (hg : ∀ y ∈ gn', scope.names.lookup y = some .globalImplicit) (hs : xs.map (fun x => (x, false)) ++ cap.map (fun i => (sh[i]?).getD default) = sh') : In G n sh' gn' C' :=
  ⟨S.ok, by rw [S.shape, H.shape]; exact hs, fun y hy => S.glo y (hg y hy), S.prog.trans H.prog, S.w.trans H.w, S.g.trans H.g, S.mg.trans H.mg, S.mb.trans H.mb, by rw [S.A]; exact H.dep, by rw [S.A]; exact H.uni, by rw [S.A]; exact H.grd⟩
theorem In.nm (H : In G n sh gn C) : C.names = sh.map (·.1) := names_shape H.shape
theorem In.local {i : Nat} {x : Str} (H : In G n sh gn C) (h : sh[i]? = some (x, false)) : C.env.kindOf x = some .local :=
  H.ok.loc x (List.mem_of_getElem? (shape_loc (by rw [H.shape]; exact h)))
theorem In.cell {i : Nat} {x : Str} (H : In G n sh gn C) (h : sh[i]? = some (x, true)) : C.env.kindOf x = some .cell := by
  obtain ⟨c, hc⟩ := shape_cell (C := C) (i := i) (y := x) (by rw [H.shape]; exact h)
  exact (H.ok.cel x c (List.mem_of_getElem? hc)).1

theorem CallK.pure {K : V → St → Prop} {lev : Nat} {f : Addr} {args : List V} {ret : D} (H : In G n sh gn C) (F : Fn G lev f args [] ret []) (hl : lev ≤ n) (hd : ∀ v ∈ args, ∃ d, v = .d d) (h : K (.d ret) σ) : CallK C (.ref f) args σ K := fun hp tk ρ E vs R r => by
  obtain ⟨m, RM⟩ := id R
  have B : Bor G.g [] hp ⟨[], ρ.gd⟩ := ⟨rfl, by simp, by simp, by rw [← H.g]; exact RM.glob, by simp, by simp, by rw [← H.g]; exact RM.gg, RM.gin⟩
  have r' : Reps hp ⟨[], ρ.gd⟩ args vs := by
    clear h F
    induction args generalizing vs with
    | nil => exact r
    | cons x l ih =>
      obtain ⟨v, q, rfl, h1, h2⟩ := r
      obtain ⟨d, rfl⟩ := hd x (by simp)
      exact ⟨v, q, rfl, h1, ih (fun v hv => hd v (by simp [hv])) q h2⟩
  have hdep := H.dep
  have huni := H.uni
  have run := F.run C.A (C.at hp tk) ⟨[], ρ.gd⟩ vs E H.ok.han H.grd (by lia) (by lia) B r'
  rw [← H.prog, ← H.w] at run
  refine mono' run ?_
  rintro v' _ ⟨h', tk', gd', rfl, B', hk, hg, hg2, rr⟩
  have hk' : ∀ b o, hp.get? b = some o → h'.get? b = some o := fun b o e => hk b o e (by simp)
  refine ⟨h', tk', ⟨ρ.ad, gd'⟩, _, σ, rfl, h, ⟨R.move rfl hg (fun a g => (hg2 a g).imp id fun q => ⟨q, B'.gin a g⟩) fun b o e _ => hk' b o e, ⟨[], by simp⟩, fun _ q => .inl q, fun b o e _ _ => hk' b o e, fun a g => (hg2 a g).imp id .inr, hg⟩, rr⟩

noncomputable def ren (k : Nat) : V → V
  | .d x => .d x
  | .mu _ => .mu k
theorem Step.putG {h h' : Heap} {ρ : Rho} {gd' : Addr → Prop} {k : Nat} {a : Addr} {l l₀ : List D} {vs : Array Value} {n : Nat} (R : Rel C σ h ρ) (hk : σ.mu[k]? = some (some l₀)) (ha : ρ.ad[k]? = some a)
    (hs : ∀ b o, b ≠ a → h.get? b = some o → h'.get? b = some o) (hl : IsL h' a vs n) (hr : RepDs h' gd' l vs.toList) (hg : ∀ a, ρ.gd a → gd' a) (hg2 : ∀ a, gd' a → ρ.gd a ∨ (h.get? a = none ∧ ∃ o, h'.get? a = some o)) : Step C σ h ρ (σ.put k l) h' ⟨ρ.ad, gd'⟩ := by
  have la : Live σ ρ a := ⟨k, l₀, hk, ha⟩
  have hL : ∀ b vs n, IsL h b vs n → ρ.gd b → IsL h' b vs n ∧ gd' b := fun b vs n x y => ⟨hs b _ (fun e => gd_not_live R y (e ▸ la)) x, hg b y⟩
  have hT : ∀ b vs n, IsT h b vs n → ρ.gd b → IsT h' b vs n ∧ gd' b := fun b vs n x y => ⟨hs b _ (fun e => gd_not_live R y (e ▸ la)) x, hg b y⟩
  have own : ∀ b, Own C b → b ≠ a := fun b hb e => own_not_live R hb (e ▸ la)
  obtain ⟨m, RM⟩ := id R
  have lp : ∀ b, Live (σ.put k l) ⟨ρ.ad, gd'⟩ b ↔ Live σ ρ b := fun b => live_put (ρ := ρ) hk
  refine ⟨⟨m, by show ρ.ad.length = _; rw [RM.len]; simp [St.put], RM.inj, fun j l' e => ?_, fun i v e => ?_, RM.ns.at' fun o e => hs _ o (own _ (.inl rfl)) e, fun x c e => ?_, fun b o e => ?_, fun b hb => RM.liveg b ((lp b).mp hb), fun i b e => ?_, fun b hb g => ?_, fun i b e => (RM.adg i b e).imp (hg b) (lp b).mpr, fun b o e => hg b (RM.gg b o e), fun b g => ?_⟩,
    ⟨[], by simp⟩, fun b hb => .inl ((lp b).mp hb), fun b o e _ nl => hs b o (fun q => nl (q ▸ la)) e, fun b g => (hg2 b g).imp id fun q => .inr q.1, hg⟩
  · by_cases q : j = k
    · subst q
      have : j < σ.mu.length := (List.getElem?_eq_some_iff.mp hk).1
      simp [St.put, this] at e
      subst e
      exact ⟨a, vs, n, ha, hl, hr⟩
    · unfold St.put at e
      dsimp only at e
      rw [List.getElem?_set_ne (Ne.symm q)] at e
      obtain ⟨b, vs', n', h1, h2, h3⟩ := RM.muts j l' e
      refine ⟨b, vs', n', h1, hs b _ (fun z => q ?_) h2, RepDs.mono hL hT _ _ h3⟩
      subst z
      exact RM.inj j k b h1 ha
  · obtain ⟨x, c, v', h1, h2, h3⟩ := RM.locs i v e
    refine ⟨x, c, v', h1, ?_, h3.mono hL hT ⟨[], by simp⟩⟩
    cases c with
    | none => exact h2
    | some c =>
      obtain ⟨o, ho, hd⟩ := h2
      exact ⟨o, hs c o (own c (.inr ⟨x, List.mem_of_getElem? h1⟩)) ho, hd⟩
  · obtain ⟨v, o, ho, hd⟩ := RM.cells x c e
    exact ⟨v, o, hs c o (own c (.inr ⟨x, e⟩)) ho, hd⟩
  · exact hs b o (fun z => by rw [z, RM.liveg a la] at e; cases e) (RM.glob b o e)
  · by_cases z : b = a
    · subst z; exact ⟨vs, n, hl⟩
    · obtain ⟨vs', n', q⟩ := RM.rin i b e
      exact ⟨vs', n', hs b _ z q⟩
  · have hb := (lp b).mp hb
    rcases hg2 b g with q | q
    · exact RM.livegd b hb q
    · obtain ⟨_, _, z⟩ := live_obj R hb
      cases q.1.symm.trans z
  · rcases hg2 b g with q | q
    · obtain ⟨o, ho⟩ := RM.gin b q
      exact ⟨o, hs b o (fun e => gd_not_live R q (e ▸ la)) ho⟩
    · exact q.2
theorem CallK.one {K : V → St → Prop} {lev k : Nat} {f : Addr} {args vs : List V} {l l' : List D} {ret : D} (H : In G n sh gn C) (F : Fn G lev f args [l] ret [l']) (hl : lev ≤ n) (hk : σ.mu[k]? = some (some l)) (hv : vs = args.map (ren k)) (ha0 : ∀ j, V.mu j ∈ args → j = 0)
    (h : K (.d ret) (σ.put k l')) : CallK C (.ref f) vs σ K := fun hp tk ρ E vs' R r => by
  obtain ⟨m, RM⟩ := id R
  obtain ⟨a, xs, nn, ha, hIs, hxs⟩ := RM.muts k l hk
  have la : Live σ ρ a := ⟨k, l, hk, ha⟩
  have B : Bor G.g [l] hp ⟨[a], ρ.gd⟩ := by
    refine ⟨rfl, fun i j b hi hj => ?_, fun j l2 hj => ?_, by rw [← H.g]; exact RM.glob, fun b hb => ?_, fun b hb => ?_, by rw [← H.g]; exact RM.gg, RM.gin⟩
    · have e1 : i = 0 := by have := (List.getElem?_eq_some_iff.mp hi).1; simp at this; exact this
      have e2 : j = 0 := by have := (List.getElem?_eq_some_iff.mp hj).1; simp at this; exact this
      rw [e1, e2]
    · have e2 : j = 0 := by have := (List.getElem?_eq_some_iff.mp hj).1; simp at this; exact this
      subst e2
      simp at hj
      subst hj
      exact ⟨a, xs, nn, rfl, hIs, hxs⟩
    · simp at hb; subst hb; rw [← H.g]; exact RM.liveg b la
    · simp at hb; subst hb; exact RM.livegd b la
  subst hv
  have r' : Reps hp ⟨[a], ρ.gd⟩ args vs' := by
    clear h F
    induction args generalizing vs' with
    | nil => exact r
    | cons x t ih =>
      obtain ⟨v, q, rfl, h1, h2⟩ := r
      refine ⟨v, q, rfl, ?_, ih (fun j hj => ha0 j (by simp [hj])) q h2⟩
      cases x with
      | d x => exact h1
      | mu j =>
        have := ha0 j (by simp)
        subst this
        obtain ⟨a', ha', hv⟩ := h1
        rw [ha] at ha'; cases ha'
        exact ⟨a, rfl, hv⟩
  have hdep := H.dep
  have huni := H.uni
  have run := F.run C.A (C.at hp tk) ⟨[a], ρ.gd⟩ vs' E H.ok.han H.grd (by lia) (by lia) B r'
  rw [← H.prog, ← H.w] at run
  refine mono' run ?_
  rintro v' _ ⟨h', tk', gd', rfl, B', hk', hg, hg2, rr⟩
  obtain ⟨a2, ys, n2, ha2, hI2, hys⟩ := B'.muts 0 l' rfl
  simp at ha2
  subst ha2
  exact ⟨h', tk', ⟨ρ.ad, gd'⟩, _, _, rfl, h, Step.putG R hk ha (fun b o hb e => hk' b o e (by simpa using hb)) hI2 hys hg fun b g => (hg2 b g).imp id fun q => ⟨q, B'.gin b g⟩, rr⟩

/-- a call of a def by its name -/
theorem In.call {K : V → St → Prop} {x : Str} {p pos : Pos} {e : Expr} {es : List Expr} {f : Value} (H : In G n sh gn C) (hk : x ∈ gn) (hv : G.mg x = some f) (hf : Fun G.g f)
    (h : EvA C pos (e :: es) σ fun vs σ2 => CallK C f vs σ2 K) (hd : (x == ("__debug__" : Str)) = false := by decide)
    (hst : starEach (e :: es) C.env = (false, eval e C.env) :: starEach es C.env := by rfl)
    (hplain : (backTo pos (starEach es C.env)).any (·.1) = false := by rfl) : Ev C (.Call (.Name x p) (e :: es) [] pos) σ K :=
  Ev.callf (Ev.glo H.ok (H.glo x hk) (by rw [H.mg]; exact hv) ⟨f, rfl, by rw [H.g]; exact hf, h⟩ hd) hst hplain
theorem In.callB {K : V → St → Prop} {x : Str} {p pos : Pos} {e : Expr} {es : List Expr} {f : Value} (H : In G n sh gn C) (hk : x ∈ gn) (hm : G.mg x = none) (hv : G.mb x = some f) (hf : Fun G.g f)
    (h : EvA C pos (e :: es) σ fun vs σ2 => CallK C f vs σ2 K) (hd : (x == ("__debug__" : Str)) = false := by decide)
    (hst : starEach (e :: es) C.env = (false, eval e C.env) :: starEach es C.env := by rfl)
    (hplain : (backTo pos (starEach es C.env)).any (·.1) = false := by rfl) : Ev C (.Call (.Name x p) (e :: es) [] pos) σ K :=
  Ev.callf (Ev.bui H.ok (H.glo x hk) (by rw [H.mg]; exact hm) (by rw [H.mb]; exact hv) ⟨f, rfl, by rw [H.g]; exact hf, h⟩ hd) hst hplain
/-- a call of a def that a name of the frame holds -/
theorem In.callL {K : V → St → Prop} {x : Str} {p pos : Pos} {e : Expr} {es : List Expr} {f : Value} (i : Nat) (H : In G n sh gn C) (hx : (sh.map (·.1))[i]? = some x) (hv : σ.loc[i]? = some (some (.d (.val f)))) (hf : Fun G.g f)
    (h : EvA C pos (e :: es) σ fun vs σ2 => CallK C f vs σ2 K) (hd : (x == ("__debug__" : Str)) = false := by decide)
    (hst : starEach (e :: es) C.env = (false, eval e C.env) :: starEach es C.env := by rfl)
    (hplain : (backTo pos (starEach es C.env)).any (·.1) = false := by rfl) : Ev C (.Call (.Name x p) (e :: es) [] pos) σ K :=
  Ev.callf (Ev.loc i H.ok H.nm hx hv ⟨f, rfl, by rw [H.g]; exact hf, h⟩ hd) hst hplain
end
end Mine
end

section -- Fw14
open PySem PySem.W PySem.Calls PyProof.Rows
namespace Mine

noncomputable def mkVt (cells : List (Str × Addr)) (names : List (Str × NameKind)) : List (Str × Option Addr) := names.filterMap fun p => match p.2 with
  | .local => some (p.1, none)
  | .cell => (cells.lookup p.1).map fun c => (p.1, some c)
  | _ => none
noncomputable def mkSh (names : List (Str × NameKind)) : List (Str × Bool) := names.filterMap fun p => match p.2 with
  | .local => some (p.1, false)
  | .cell => some (p.1, true)
  | _ => none

theorem cellsFrom_some' {x : Str} : ∀ (names : List (Str × NameKind)) (n : Nat) (acc : List (Str × Addr)), (x, NameKind.cell) ∈ names ∨ (acc.lookup x).isSome = true → ((cellsFrom n names acc).lookup x).isSome = true
  | [], _, _, h => h.elim (fun e => by simp at e) id
  | (y, k) :: r, n, acc, h => by
    unfold cellsFrom
    by_cases hk : (k == .cell) = true
    · rw [if_pos hk]
      refine cellsFrom_some' r (n + 1) ((y, n) :: acc) ?_
      by_cases hy : (x == y) = true
      · exact .inr (by rw [List.lookup_cons, hy]; rfl)
      · refine h.imp (fun e => ?_) fun e => ?_
        · rcases List.mem_cons.mp e with e | e
          · cases e; simp at hy
          · exact e
        · rw [List.lookup_cons]; simpa only [hy] using e
    · rw [if_neg hk]
      refine cellsFrom_some' r n acc (h.imp (fun e => ?_) id)
      rcases List.mem_cons.mp e with e | e
      · cases e; simp at hk
      · exact e

theorem vt_shape {cells : List (Str × Addr)} : ∀ (names : List (Str × NameKind)), (∀ x, (x, NameKind.cell) ∈ names → ∃ c, cells.lookup x = some c) → (mkVt cells names).map (fun p => (p.1, p.2.isSome)) = mkSh names
  | [], _ => rfl
  | (x, k) :: r, h => by
    have ih := vt_shape r fun y hy => h y (List.mem_cons_of_mem _ hy)
    unfold mkVt mkSh at *
    cases k
    all_goals first
      | (simp only [List.filterMap_cons, List.map_cons]; rw [ih]; rfl)
      | (simp only [List.filterMap_cons]; exact ih)
      | (obtain ⟨c, hc⟩ := h x (by simp); simp only [List.filterMap_cons, hc, Option.map_some, List.map_cons, Option.isSome_some]; rw [ih])

theorem vt_mem {cells : List (Str × Addr)} {names : List (Str × NameKind)} {x : Str} {c : Option Addr} (h : (x, c) ∈ mkVt cells names) : (c = none ∧ (x, NameKind.local) ∈ names) ∨ (∃ a, c = some a ∧ (x, NameKind.cell) ∈ names ∧ cells.lookup x = some a) := by
  unfold mkVt at h
  obtain ⟨⟨y, k⟩, hm, he⟩ := List.mem_filterMap.mp h
  cases k <;> simp at he
  · obtain ⟨rfl, rfl⟩ := he; exact .inl ⟨rfl, hm⟩
  · obtain ⟨a, ha, rfl, rfl⟩ := he; exact .inr ⟨a, rfl, hm, ha⟩

theorem sh_mem {names : List (Str × NameKind)} {x : Str} {b : Bool} (h : (x, b) ∈ mkSh names) : (b = false ∧ (x, NameKind.local) ∈ names) ∨ (b = true ∧ (x, NameKind.cell) ∈ names) := by
  unfold mkSh at h
  obtain ⟨⟨y, k⟩, hm, he⟩ := List.mem_filterMap.mp h
  cases k <;> simp at he
  · obtain ⟨rfl, rfl⟩ := he; exact .inl ⟨rfl, hm⟩
  · obtain ⟨rfl, rfl⟩ := he; exact .inr ⟨rfl, hm⟩
theorem lookup_of_mem {x : Str} {k : NameKind} : ∀ {names : List (Str × NameKind)}, (names.map (·.1)).Nodup → (x, k) ∈ names → names.lookup x = some k
  | (y, j) :: r, nd, h => by
    rw [List.map_cons, List.nodup_cons] at nd
    rcases List.mem_cons.mp h with e | e
    · cases e; simp
    · have ne : x ≠ y := fun q => nd.1 (by subst q; exact List.mem_map.mpr ⟨(x, k), e, rfl⟩)
      rw [List.lookup_cons, show (x == y) = false from beq_eq_false_iff_ne.mpr ne]
      exact lookup_of_mem nd.2 e

theorem bindL_at {kindOf : Str → Option NameKind} {x : Str} {v : Value} (hk : kindOf x = some .local) : ∀ (b : List (Str × Value)) (m : Str → Option Value), (b.map (·.1)).Nodup → ((x, v) ∈ b ∨ (x ∉ b.map (·.1) ∧ m x = some v)) → bindL kindOf b m x = some v
  | [], m, _, h => h.elim (fun e => by simp at e) fun e => e.2
  | (y, u) :: r, m, nd, h => by
    rw [List.map_cons, List.nodup_cons] at nd
    unfold bindL
    refine bindL_at hk r _ nd.2 ?_
    rcases h with h | ⟨h1, h2⟩
    · rcases List.mem_cons.mp h with e | e
      · cases e
        refine .inr ⟨nd.1, ?_⟩
        rw [if_pos hk]; simp
      · exact .inl e
    · simp only [List.map_cons, List.mem_cons, not_or] at h1
      refine .inr ⟨h1.2, ?_⟩
      split
      · show (if x = y then some u else m x) = some v; rw [if_neg h1.1]; exact h2
      · exact h2
theorem bindC_at {kindOf : Str → Option NameKind} {x : Str} {v : Value} (hk : kindOf x ≠ some .local) : ∀ (b : List (Str × Value)) (m : Str → Option Value), (b.map (·.1)).Nodup → ((x, v) ∈ b ∨ (x ∉ b.map (·.1) ∧ m x = some v)) → bindC kindOf b m x = some v
  | [], m, _, h => h.elim (fun e => by simp at e) fun e => e.2
  | (y, u) :: r, m, nd, h => by
    rw [List.map_cons, List.nodup_cons] at nd
    unfold bindC
    refine bindC_at hk r _ nd.2 ?_
    rcases h with h | ⟨h1, h2⟩
    · rcases List.mem_cons.mp h with e | e
      · cases e
        refine .inr ⟨nd.1, ?_⟩
        rw [if_neg hk]; simp
      · exact .inl e
    · simp only [List.map_cons, List.mem_cons, not_or] at h1
      refine .inr ⟨h1.2, ?_⟩
      split
      · exact h2
      · show (if x = y then some u else m x) = some v; rw [if_neg h1.1]; exact h2

/-- the end of a def's run -/
noncomputable def RetK (ret : D) (mu' : List (List D)) (f : Fl) (σ : St) : Prop := (f = .ret (.d ret) ∨ (f = .next ∧ ret = .none)) ∧ ∀ (k : Nat) (l : List D), mu'[k]? = some l → σ.mu[k]? = some (some l)

theorem Fn.intro {G : Gl} {lev : Nat} {f : Addr} {args : List V} {mu mu' : List (List D)} {ret : D} (sh : List (Str × Bool)) (gn : List Str) (k : Nat) (fd : FuncData) (o : Obj) (body : List Stmt) (ps : List Str) (ho : G.g.get? f = some o) (hd : o.data = .func fd) (hbody : fd.body = .stmts body) (hclo : fd.closure = [])
    (hgl : fd.globals = mainGlobals) (hbu : fd.builtins = builtinsNs) (hcd : G.g.CodeRec fd.code fd.qualname) (gns : G.g.Ns mainGlobals G.mg) (bns : G.g.Ns builtinsNs G.mb) (lim : G.g.NoLimit)
    (hbind : ∀ vals : List Value, vals.length = ps.length → bindArgs fd ⟨vals, []⟩ = pure (ps.zip vals)) (nd : (fd.scope.names.map (·.1)).Nodup)
    (hps : ∀ (j : Nat) x, ps[j]? = some x → ∃ b, (mkSh fd.scope.names)[j]? = some (x, b)) (psnd : ps.Nodup) (hargs : args.length = ps.length) (hmu : mu'.length = mu.length)
    (hsh : mkSh fd.scope.names = sh) (hgn : ∀ y ∈ gn, fd.scope.names.lookup y = some .globalImplicit) (hkk : sh.length - ps.length = k) (hco : fd.scope.isCoroutine = false) (hgen : fd.scope.isGenerator = false) (hk : fd.scope.kind = .function)
    (B : ∀ C, In G lev sh gn C → Exs C body ⟨args.map some ++ List.replicate k none, mu.map some⟩ (RetK ret mu')) : Fn G (lev + 1) f args mu ret mu' := by
  subst hsh
  subst hkk
  refine ⟨.fn f o fd ho hd, fun A s ρ args' E hh hgrd hdep huni Bo rr => ?_⟩
  have hal : args'.length = ps.length := by rw [reps_len rr, hargs]
  refine wpAny_call ?_
  refine codeAny_call_cells (fd := fd) (by lia) (Bo.glob f o ho) hd (lim.keeps Bo.glob) (hcd.keeps Bo.glob) hbody (hbind args' hal) hclo (fun x hx => ?_) (fun s₁ IC => ?_) hco hgen hk
  · obtain ⟨j, hj⟩ := List.getElem?_of_mem hx
    rw [List.getElem?_zip_eq_some] at hj
    obtain ⟨b, hb⟩ := hps j _ hj.1
    have hm := List.mem_of_getElem? hb
    rcases sh_mem hm with ⟨_, q⟩ | ⟨_, q⟩
    · exact .inl (lookup_of_mem nd q)
    · exact .inr ⟨lookup_of_mem nd q, cellsFrom_some' _ _ _ (.inl q)⟩
  · obtain ⟨h₁, tk₁, rfl⟩ := IC.toInCall.same
    generalize hLdef : s.heap.objs.size = L at *
    have hcells : (callEnvC fd L f).cells = cellsFrom (L + 1) fd.scope.names [] := rfl
    have hcl : ∀ x, (x, NameKind.cell) ∈ fd.scope.names → ∃ c, (callEnvC fd L f).cells.lookup x = some c := fun x hx => by
      obtain ⟨c, hc⟩ := Option.isSome_iff_exists.mp (cellsFrom_some' (x := x) fd.scope.names (L + 1) [] (.inl hx))
      exact ⟨c, hc⟩
    let C : Cx := { prog := G.prog, w := G.w, A := A.deeper (callEnvC fd L f), env := callEnvC fd L f, vt := mkVt (callEnvC fd L f).cells fd.scope.names, g := G.g, s := s, mg := G.mg, mb := G.mb }
    have keep := IC.toInCall.keep
    have freshS : ∀ b, L ≤ b → s.heap.get? b = none := fun b hb => Heap.get?_none_of_le (by rw [hLdef]; exact hb)
    have ownL : ∀ b, Own C b → L ≤ b := fun b hb => by
      rcases hb with hb | ⟨x, hb⟩
      · exact Nat.le_of_eq hb.symm
      · rcases vt_mem hb with ⟨e, _⟩ | ⟨a, e, _, hc⟩
        · cases e
        · cases e; exact Nat.le_of_lt (IC.above x b (mem_of_lookup hc))
    have ok : CxOk C := by
      refine ⟨hk, hgl, hbu, hh, gns, bns, lim, fun x hx => ?_, fun x c hx => ?_, ?_, fun x y c hx hy => ?_, fun x hx => ?_, fun b hb => ?_⟩
      · rcases vt_mem hx with ⟨_, q⟩ | ⟨a, e, _⟩
        · exact lookup_of_mem nd q
        · cases e
      · rcases vt_mem hx with ⟨e, _⟩ | ⟨a, e, q, hc⟩
        · cases e
        · cases e; exact ⟨lookup_of_mem nd q, hc⟩
      · have e : C.names = (mkSh fd.scope.names).map (·.1) := by
          have := vt_shape fd.scope.names hcl
          show (mkVt _ _).map (·.1) = _
          rw [← this, List.map_map]; rfl
        rw [e]
        unfold mkSh
        have sub : ∀ l : List (Str × NameKind), List.Sublist ((l.filterMap fun p => match p.2 with | .local => some (p.1, false) | .cell => some (p.1, true) | _ => none).map (·.1)) (l.map (·.1)) := by
          intro l
          induction l with
          | nil => exact .slnil
          | cons p r ih =>
            obtain ⟨x, k⟩ := p
            cases k
            all_goals first
              | exact ih.cons_cons x
              | exact ih.cons x
        exact (sub _).nodup nd
      · rcases vt_mem hx with ⟨e, _⟩ | ⟨a, e, _, hc⟩
        · cases e
        · cases e
          rcases vt_mem hy with ⟨e, _⟩ | ⟨a, e, _, hc2⟩
          · cases e
          · cases e; exact name_of_addr IC.apart (mem_of_lookup hc) (mem_of_lookup hc2)
      · rcases vt_mem hx with ⟨e, _⟩ | ⟨a, e, _, hc⟩
        · cases e
        · cases e; exact Nat.lt_irrefl _ (IC.above x _ (mem_of_lookup hc))
      · show G.g.get? b = none
        cases q : G.g.get? b with
        | none => rfl
        | some o => have := Bo.glob b o q; rw [freshS b (ownL b hb)] at this; cases this
    have H : In G lev (mkSh fd.scope.names) gn C := by
      refine ⟨ok, vt_shape fd.scope.names hcl, fun y hy => hgn y hy, rfl, rfl, rfl, rfl, rfl, ?_, ?_, hgrd⟩
      · show A.depth + 1 + lev < recursionLimit; lia
      · show A.units + 3 + 8 * lev + 8 < cLine; lia
    have names_len : (mkVt (callEnvC fd L f).cells fd.scope.names).length = (mkSh fd.scope.names).length := by rw [← vt_shape fd.scope.names hcl, List.length_map]
    have zn : (ps.zip args').map (·.1) = ps := by rw [List.map_fst_zip]; lia
    have mono1 : ∀ a vs n, IsL s.heap a vs n → ρ.gd a → IsL h₁ a vs n ∧ ρ.gd a := fun a vs n x g => ⟨keep _ _ x, g⟩
    have mono2 : ∀ a vs n, IsT s.heap a vs n → ρ.gd a → IsT h₁ a vs n ∧ ρ.gd a := fun a vs n x g => ⟨keep _ _ x, g⟩
    have live : ∀ a, Live ⟨args.map some ++ List.replicate ((mkSh fd.scope.names).length - ps.length) none, mu.map some⟩ ρ a → a ∈ ρ.ad := fun a ⟨k, l, _, e⟩ => List.mem_of_getElem? e
    have R : Rel C ⟨args.map some ++ List.replicate ((mkSh fd.scope.names).length - ps.length) none, mu.map some⟩ h₁ ρ := by
      refine ⟨_, by simp [Bo.len], Bo.inj, fun k l e => ?_, fun i v e => ?_, IC.toInCall.ns, fun x c e => ?_, fun b o e => keep b o (Bo.glob b o e), fun a ha => Bo.liveg a (live a ha), fun i a e => ?_, fun a ha => Bo.livegd a (live a ha), fun i a e => .inr ?_, Bo.gg, fun a g => ?_⟩
      · have e' : mu[k]? = some l := by
          rw [List.getElem?_map] at e
          cases q : mu[k]? with
          | none => rw [q] at e; cases e
          | some x => rw [q] at e; simp at e; rw [e]
        obtain ⟨a, vs, n, h1, h2, h3⟩ := Bo.muts k l e'
        exact ⟨a, vs, n, h1, keep _ _ h2, RepDs.mono mono1 mono2 _ _ h3⟩
      · have hi : i < args.length := by
          rcases Nat.lt_or_ge i args.length with q | q
          · exact q
          · rw [List.getElem?_append_right (by simpa using q), List.getElem?_replicate] at e
            split at e <;> cases e
        rw [List.getElem?_append_left (by simpa using hi), List.getElem?_map, List.getElem?_eq_getElem hi] at e
        simp at e
        subst e
        have hip : i < ps.length := by lia
        have hia : i < args'.length := by (clear hi; lia)
        obtain ⟨b, hb⟩ := hps i _ (List.getElem?_eq_getElem hip)
        have hv : ∃ c, (mkVt (callEnvC fd L f).cells fd.scope.names)[i]? = some (ps[i], c) := by
          rw [← vt_shape fd.scope.names hcl, List.getElem?_map] at hb
          cases q : (mkVt (callEnvC fd L f).cells fd.scope.names)[i]? with
          | none => rw [q] at hb; cases hb
          | some p => rw [q] at hb; obtain ⟨y, c⟩ := p; cases hb; exact ⟨c, rfl⟩
        obtain ⟨c, hc⟩ := hv
        have hz : (ps[i], args'[i]) ∈ ps.zip args' := List.mem_of_getElem? (i := i) (by rw [List.getElem?_zip_eq_some]; exact ⟨List.getElem?_eq_getElem hip, List.getElem?_eq_getElem hia⟩)
        have rv : Rep s.heap ρ args[i] args'[i] := by
          have go : ∀ (l : List V) (vs : List Value) (i : Nat) (h1 : i < l.length) (h2 : i < vs.length), Reps s.heap ρ l vs → Rep s.heap ρ l[i] vs[i] := by
            intro l
            induction l with
            | nil => intro vs i h1; simp at h1
            | cons x l ih =>
              rintro _ i h1 h2 ⟨v, q, rfl, r1, r2⟩
              cases i with
              | zero => exact r1
              | succ i => exact ih q i (by simpa using h1) (by simpa using h2) r2
          exact go args args' i hi hia rr
        refine ⟨ps[i], c, args'[i], hc, ?_, rv.mono mono1 mono2 ⟨[], by simp⟩⟩
        rcases vt_mem (List.mem_of_getElem? hc) with ⟨e, q⟩ | ⟨a, e, q, hl⟩
        · subst e
          exact bindL_at (lookup_of_mem nd q) _ _ (by rw [zn]; exact psnd) (.inl hz)
        · subst e
          have : bindC (callEnvC fd L f).kindOf (ps.zip args') (fun _ => none) ps[i] = some args'[i] := bindC_at (by rw [show (callEnvC fd L f).kindOf ps[i] = some .cell from lookup_of_mem nd q]; simp) _ _ (by rw [zn]; exact psnd) (.inl hz)
          have hcell := IC.cell ps[i] a hl
          rw [this] at hcell
          exact hcell
      · rcases vt_mem e with ⟨q, _⟩ | ⟨a, q, _, hl⟩
        · cases q
        · cases q; exact ⟨_, IC.cell x c hl⟩
      · have hi : i < mu.length := by rw [← Bo.len]; exact (List.getElem?_eq_some_iff.mp e).1
        obtain ⟨a', vs, n, h1, h2, _⟩ := Bo.muts i _ (List.getElem?_eq_getElem hi)
        rw [e] at h1; cases h1
        exact ⟨vs, n, keep _ _ h2⟩
      · have hi : i < mu.length := by rw [← Bo.len]; exact (List.getElem?_eq_some_iff.mp e).1
        exact ⟨i, mu[i], by simp [hi], e⟩
      · obtain ⟨o, q⟩ := Bo.gin a g; exact ⟨o, keep a o q⟩
    refine mono' (Q := Post C ⟨args.map some ++ List.replicate ((mkSh fd.scope.names).length - ps.length) none, mu.map some⟩ h₁ ρ repF (RetK ret mu')) ?_ ?_
    · exact wpAny_mono (B C H h₁ tk₁ ρ (fun _ _ => False) R) (fun _ _ x => x) fun _ _ x => x.elim
    · refine Post.elim fun fl h2 tk2 ρ2 fl' σ2 kk0 S rf => ?_
      obtain ⟨hfl, hmu2⟩ := kk0
      obtain ⟨m2, RM⟩ := id S.rel
      obtain ⟨r, hr⟩ := S.ext
      have adk : ∀ (k : Nat) a, ρ.ad[k]? = some a → ρ2.ad[k]? = some a := fun k a e => by rw [hr, List.getElem?_append_left (List.getElem?_eq_some_iff.mp e).1]; exact e
      have live2 : ∀ a ∈ ρ.ad, Live σ2 ρ2 a := fun a ha => by
        obtain ⟨k, hk⟩ := List.getElem?_of_mem ha
        have hlt : k < mu'.length := by rw [hmu, ← Bo.len]; exact (List.getElem?_eq_some_iff.mp hk).1
        exact ⟨k, mu'[k], hmu2 k _ (List.getElem?_eq_getElem hlt), adk k a hk⟩
      have rD : ∀ fl, repF h2 ρ2 fl' fl → RepD h2 ρ2.gd ret (match fl with | .ret v => v | _ => .none) := by
        intro fl rf
        rcases hfl with hfl | ⟨hfl, hret⟩
        · subst hfl; obtain ⟨v', rfl, q⟩ := rf; exact q
        · subst hfl; have rf : fl = .next := rf; subst rf; subst hret; simp only [RepD]
      refine ⟨h2, tk2, ρ2.gd, rfl, ⟨by rw [Bo.len, hmu], Bo.inj, fun k l e => ?_, RM.glob, Bo.liveg, fun a ha => RM.livegd a (live2 a ha), RM.gg, RM.gin⟩, fun b o e hb => S.keep b o (keep b o e) (fun q => ?_) (fun q => hb (live b q)), S.gm, fun a g => ?_, rD fl rf⟩
      · obtain ⟨a, vs, n, h3, h4, h5⟩ := RM.muts k l (hmu2 k l e)
        have hlt : k < ρ.ad.length := by rw [Bo.len, ← hmu]; exact (List.getElem?_eq_some_iff.mp e).1
        have e3 := adk k _ (List.getElem?_eq_getElem hlt)
        rw [h3] at e3; cases e3
        exact ⟨_, vs, n, List.getElem?_eq_getElem hlt, h4, h5⟩
      · rw [freshS b (ownL b q)] at e; cases e
      · rcases S.gd a g with q | q | q
        · exact .inl q
        · exact absurd g (RM.livegd a (live2 a (live a q)))
        · refine .inr ?_
          cases z : s.heap.get? a with
          | none => rfl
          | some o => rw [keep a o z] at q; cases q
end Mine
end

section -- Fw15
open PySem PySem.W PySem.Calls PyProof.Rows
namespace Mine

/-- the place of a name -/
inductive At : List (Str × Bool) → Nat → Str → Bool → Prop where
  | zero {x : Str} {b : Bool} {l : List (Str × Bool)} : At ((x, b) :: l) 0 x b
  | succ {x : Str} {b : Bool} {i : Nat} {p : Str × Bool} {l : List (Str × Bool)} (h : At l i x b) : At (p :: l) (i + 1) x b
theorem At.get {l : List (Str × Bool)} {i : Nat} {x : Str} {b : Bool} (h : At l i x b) : l[i]? = some (x, b) := by
  induction h with
  | zero => rfl
  | succ _ ih => simpa using ih
theorem At.name {l : List (Str × Bool)} {i : Nat} {x : Str} {b : Bool} (h : At l i x b) : (l.map (·.1))[i]? = some x := by rw [List.getElem?_map, h.get]; rfl
inductive Mem : List Str → Str → Prop where
  | zero {x : Str} {l : List Str} : Mem (x :: l) x
  | succ {x y : Str} {l : List Str} (h : Mem l x) : Mem (y :: l) x
theorem Mem.mem {l : List Str} {x : Str} (h : Mem l x) : x ∈ l := by
  induction h with
  | zero => exact List.mem_cons_self
  | succ _ ih => exact List.mem_cons_of_mem _ ih
inductive Tgs (sh : List (Str × Bool)) : List Expr → List Nat → Prop where
  | nil : Tgs sh [] []
  | cons {x : Str} {p : Pos} {es : List Expr} {is : List Nat} {i : Nat} {b : Bool} (hx : At sh i x b) (h : Tgs sh es is) : Tgs sh (.Name x p :: es) (i :: is)
theorem Tgs.tg {sh : List (Str × Bool)} : ∀ {es : List Expr} {is : List Nat}, Tgs sh es is → Tg (sh.map (·.1)) es is
  | _, _, .nil => .nil
  | _, _, .cons hx h => .cons _ hx.name h.tg

namespace U
section
variable {G : Gl} {n : Nat} {sh : List (Str × Bool)} {gn : List Str} {C : Cx} {σ : St}

theorem loc {K : V → St → Prop} {x : Str} {pos : Pos} {i : Nat} {b : Bool} {v : V} (H : In G n sh gn C) (hx : At sh i x b) (hv : σ.loc[i]? = some (some v)) (h : K v σ) (hd : (x == ("__debug__" : Str)) = false := by decide) : Ev C (.Name x pos) σ K := Ev.loc i H.ok H.nm hx.name hv h hd
theorem frz {K : V → St → Prop} {x : Str} {pos : Pos} {i k : Nat} {b : Bool} {l : List D} (H : In G n sh gn C) (hx : At sh i x b) (hv : σ.loc[i]? = some (some (.mu k))) (hk : σ.mu[k]? = some (some l)) (h : K (.d (.list l)) (σ.frz k)) (hd : (x == ("__debug__" : Str)) = false := by decide) : Ev C (.Name x pos) σ K := Ev.frz i H.ok H.nm hx.name hv hk h hd
theorem glo {K : V → St → Prop} {x : Str} {pos : Pos} {v : Value} (H : In G n sh gn C) (hk : Mem gn x) (hv : G.mg x = some v) (h : K (.d (.val v)) σ) (hd : (x == ("__debug__" : Str)) = false := by decide) : Ev C (.Name x pos) σ K :=
  Ev.glo H.ok (H.glo x hk.mem) (by rw [H.mg]; exact hv) h hd
theorem set {K : Fl → St → Prop} {x : Str} {p' pos : Pos} {e : Expr} {i : Nat} {b : Bool} (H : In G n sh gn C) (hx : At sh i x b) (h : Ev C e σ fun v σ1 => K .next (σ1.setl i v)) (hs : swapsWith e (some (.Name x p')) pos.line C.env = pure false := by rfl) : Ex C (.Assign [.Name x p'] e pos) σ K := Ex.set i H.ok H.nm hx.name h hs
theorem aug {K : Fl → St → Prop} {x : Str} {p' pos : Pos} {op : Operator} {e : Expr} {v₀ : V} {i : Nat} {b : Bool} (H : In G n sh gn C) (hx : At sh i x b) (hv : σ.loc[i]? = some (some v₀))
    (h : Ev C e σ fun v σ1 => AugK C op v₀ v σ1 fun r σ2 => K .next (σ2.setl i r)) : Ex C (.AugAssign (.Name x p') op e pos) σ K := Ex.aug i H.ok H.nm hx.name hv h
theorem untup {K : Fl → St → Prop} {es : List Expr} {is : List Nat} {k : Nat} {tp pos : Pos} {e : Expr} (H : In G n sh gn C) (ht : Tgs sh es is)
    (h : Ev C e σ fun v σ1 => ∃ d l, v = .d d ∧ SeqD d l ∧ l.length = es.length ∧ K .next (σ1.setls is (l.map V.d)))
    (hw : swappedStores [.Tuple es k tp] e C.env = pure none := by rfl)
    (hs : swapsWithSole [.Tuple es k tp] e pos.line C.env = pure false := by rfl) : Ex C (.Assign [.Tuple es k tp] e pos) σ K := Ex.untup H.ok H.nm ht.tg h hw hs
theorem swap2 {K : Fl → St → Prop} {x y : Str} {p q tp p2 pos : Pos} {k k2 i j : Nat} {e1 e2 : Expr} (H : In G n sh gn C) (hi : At sh i x false) (hj : At sh j y false)
    (h : EvA C p2 [e1, e2] σ fun vs σ1 => ∃ v1 v2, vs = [v1, v2] ∧ K .next ((σ1.setl j v2).setl i v1))
    (hne : (x == y) = false := by decide) (hl : (p.line == q.line) = true := by rfl)
    (h1 : [e1, e2].any isStarred = false := by rfl) (h2 : [e1, e2].all (foldedForSure 8) = false := by rfl) (h3 : [e1, e2].all (constantsAlone 8) = false := by rfl) :
    Ex C (.Assign [.Tuple [.Name x p, .Name y q] k tp] (.Tuple [e1, e2] k2 p2) pos) σ K := Ex.swap2 i j H.ok H.nm hi.name hj.name (H.local hi.get) (H.local hj.get) h hne hl h1 h2 h3
theorem swap3 {K : Fl → St → Prop} {x y z : Str} {p q r tp p2 pos : Pos} {k k2 i j l : Nat} {e1 e2 e3 : Expr} (H : In G n sh gn C) (hi : At sh i x false) (hj : At sh j y false) (hk : At sh l z false)
    (h : EvA C p2 [e1, e2, e3] σ fun vs σ1 => ∃ v1 v2 v3, vs = [v1, v2, v3] ∧ K .next (((σ1.setl l v3).setl j v2).setl i v1))
    (hne : (x == y) = false := by decide) (hne2 : (x == z) = false := by decide) (hne3 : (y == z) = false := by decide) (hl : (p.line == q.line) = true := by rfl) (hl2 : (p.line == r.line) = true := by rfl)
    (h1 : [e1, e2, e3].any isStarred = false := by rfl) (h2 : [e1, e2, e3].all (foldedForSure 8) = false := by rfl) (h3 : [e1, e2, e3].all (constantsAlone 8) = false := by rfl) :
    Ex C (.Assign [.Tuple [.Name x p, .Name y q, .Name z r] k tp] (.Tuple [e1, e2, e3] k2 p2) pos) σ K := Ex.swap3 i j l H.ok H.nm hi.name hj.name hk.name (H.local hi.get) (H.local hj.get) (H.local hk.get) h hne hne2 hne3 hl hl2 h1 h2 h3
theorem «for» {K : Fl → St → Prop} {x : Str} {p pos : Pos} {iter : Expr} {body : List Stmt} {i : Nat} {b : Bool} (H : In G n sh gn C) (hx : At sh i x b) (h : EvI C iter σ fun items σ1 => ForK C i body K items σ1)
    (hs : ∀ x, foldedSetIterable iter C.env x = pure x := by intro _; rfl) : Ex C (.For (.Name x p) iter body [] pos) σ K := Ex.for i H.ok H.nm hx.name h hs
theorem for2 {K : Fl → St → Prop} {es : List Expr} {is : List Nat} {k : Nat} {tp pos : Pos} {iter : Expr} {body : List Stmt} (H : In G n sh gn C) (ht : Tgs sh es is) (h2' : es.length = 2) (h : EvI2 C iter σ fun items σ1 => ForK2 C is body K items σ1)
    (hs : ∀ x, foldedSetIterable iter C.env x = pure x := by intro _; rfl) : Ex C (.For (.Tuple es k tp) iter body [] pos) σ K := Ex.for2 H.ok H.nm ht.tg h2' h hs
theorem call {K : V → St → Prop} {x : Str} {p pos : Pos} {e : Expr} {es : List Expr} {f : Value} (H : In G n sh gn C) (hk : Mem gn x) (hv : G.mg x = some f) (hf : Fun G.g f)
    (h : EvA C pos (e :: es) σ fun vs σ2 => CallK C f vs σ2 K) (hd : (x == ("__debug__" : Str)) = false := by decide)
    (hst : starEach (e :: es) C.env = (false, eval e C.env) :: starEach es C.env := by rfl)
    (hplain : (backTo pos (starEach es C.env)).any (·.1) = false := by rfl) : Ev C (.Call (.Name x p) (e :: es) [] pos) σ K := H.call hk.mem hv hf h hd hst hplain
theorem callB {K : V → St → Prop} {x : Str} {p pos : Pos} {e : Expr} {es : List Expr} {f : Value} (H : In G n sh gn C) (hk : Mem gn x) (hv : G.mg x = none ∧ G.mb x = some f) (hf : Fun G.g f)
    (h : EvA C pos (e :: es) σ fun vs σ2 => CallK C f vs σ2 K) (hd : (x == ("__debug__" : Str)) = false := by decide)
    (hst : starEach (e :: es) C.env = (false, eval e C.env) :: starEach es C.env := by rfl)
    (hplain : (backTo pos (starEach es C.env)).any (·.1) = false := by rfl) : Ev C (.Call (.Name x p) (e :: es) [] pos) σ K := H.callB hk.mem hv.1 hv.2 hf h hd hst hplain
theorem callL {K : V → St → Prop} {x : Str} {p pos : Pos} {e : Expr} {es : List Expr} {f : Value} {i : Nat} {b : Bool} (H : In G n sh gn C) (hx : At sh i x b) (hv : σ.loc[i]? = some (some (.d (.val f)))) (hf : Fun G.g f)
    (h : EvA C pos (e :: es) σ fun vs σ2 => CallK C f vs σ2 K) (hd : (x == ("__debug__" : Str)) = false := by decide)
    (hst : starEach (e :: es) C.env = (false, eval e C.env) :: starEach es C.env := by rfl)
    (hplain : (backTo pos (starEach es C.env)).any (·.1) = false := by rfl) : Ev C (.Call (.Name x p) (e :: es) [] pos) σ K := In.callL i H hx.name hv hf h hd hst hplain
theorem bui {K : V → St → Prop} {x : Str} {pos : Pos} {v : Value} (H : In G n sh gn C) (hk : Mem gn x) (hv : G.mg x = none ∧ G.mb x = some v) (h : K (.d (.val v)) σ) (hd : (x == ("__debug__" : Str)) = false := by decide) : Ev C (.Name x pos) σ K :=
  Ev.bui H.ok (H.glo x hk.mem) (by rw [H.mg]; exact hv.1) (by rw [H.mb]; exact hv.2) h hd
theorem append {K : Fl → St → Prop} {o e : Expr} {apos pos pos' : Pos} {k : Nat} {pl : Sem Bool} (H : In G n sh gn C)
    (h : Ev C o σ fun ov σ1 => ov = .mu k ∧ (∃ l₁, σ1.mu[k]? = some (some l₁)) ∧ Ev C e σ1 fun v σ2 => ∃ x l, v = .d x ∧ σ2.mu[k]? = some (some l) ∧ l.length ≤ 1000000 ∧ K .next (σ2.put k (l ++ [x])))
    (he : eval (.Call (.Attribute o (Str.ofString "append") apos) [e] [] pos) C.env = (do
      let ov ← eval o C.env
      standAt apos.atName
      let (f, first) ← holding [ov] (getMethod ov (Str.ofString "append") pl)
      callWith pos f first (backTo pos (starEach [e] C.env)) []) := by rfl)
    (hst : starEach [e] C.env = (false, eval e C.env) :: starEach [] C.env := by rfl)
    (hsw : swapsWith (.Call (.Attribute o (Str.ofString "append") apos) [e] [] pos) none pos'.line C.env = pure false := by rfl) :
    Ex C (.Expr (.Call (.Attribute o (Str.ofString "append") apos) [e] [] pos) pos') σ K := Ex.append h he hst (by unfold interactive; rw [H.ok.kind]; rfl) hsw
end
end U
end Mine
end

section -- Mth
namespace Mine

/-! limbs: numbers below a base, the lowest first -/
noncomputable def val (B : Int) : List Int → Int
  | [] => 0
  | x :: r => x + B * val B r
noncomputable def Lm (B : Int) (xs : List Int) : Prop := ∀ x ∈ xs, 0 ≤ x ∧ x < B
noncomputable def norm (xs : List Int) : List Int := (xs.reverse.dropWhile (· == 0)).reverse
/-- the limbs of a number -/
noncomputable def dg (B : Nat) (n : Nat) : List Int := if h : n = 0 ∨ B < 2 then [] else ((n % B : Nat) : Int) :: dg B (n / B)
termination_by n
decreasing_by
  have : n ≠ 0 ∧ 2 ≤ B := by lia
  exact Nat.div_lt_self (by (clear h; lia)) (by (clear h; lia))

theorem val_append (B : Int) : ∀ (xs ys : List Int), val B (xs ++ ys) = val B xs + B ^ xs.length * val B ys
  | [], ys => by simp [val]
  | x :: r, ys => by
    simp only [List.cons_append, val, val_append B r ys, List.length_cons, Int.pow_succ]
    grind
theorem Lm.nil (B : Int) : Lm B [] := fun _ h => by simp at h
theorem Lm.cons {B x : Int} {r : List Int} (h0 : 0 ≤ x) (h1 : x < B) (h : Lm B r) : Lm B (x :: r) := fun y hy => by
  rcases List.mem_cons.mp hy with rfl | hy
  · exact ⟨h0, h1⟩
  · exact h y hy
theorem Lm.tail {B x : Int} {r : List Int} (h : Lm B (x :: r)) : Lm B r := fun y hy => h y (List.mem_cons_of_mem _ hy)
theorem Lm.head {B x : Int} {r : List Int} (h : Lm B (x :: r)) : 0 ≤ x ∧ x < B := h x List.mem_cons_self
theorem Lm.append {B : Int} {xs ys : List Int} (h1 : Lm B xs) (h2 : Lm B ys) : Lm B (xs ++ ys) := fun y hy => by
  rcases List.mem_append.mp hy with hy | hy
  · exact h1 y hy
  · exact h2 y hy
theorem Lm.take {B : Int} {xs : List Int} (k : Nat) (h : Lm B xs) : Lm B (xs.take k) := fun y hy => h y (List.mem_of_mem_take hy)
theorem Lm.drop {B : Int} {xs : List Int} (k : Nat) (h : Lm B xs) : Lm B (xs.drop k) := fun y hy => h y (List.mem_of_mem_drop hy)
theorem Lm.set {B : Int} {xs : List Int} {k : Nat} {x : Int} (h : Lm B xs) (h0 : 0 ≤ x) (h1 : x < B) : Lm B (xs.set k x) := fun y hy => by
  rcases List.mem_or_eq_of_mem_set hy with hy | rfl
  · exact h y hy
  · exact ⟨h0, h1⟩
theorem Lm.get {B : Int} {xs : List Int} (h : Lm B xs) {k : Nat} (hk : k < xs.length) : 0 ≤ xs.getD k 0 ∧ xs.getD k 0 < B := by
  rw [List.getD_eq_getElem?_getD, List.getElem?_eq_getElem hk]
  exact h _ (List.getElem_mem hk)
theorem val_nonneg {B : Int} (hB : 0 ≤ B) : ∀ {xs : List Int}, Lm B xs → 0 ≤ val B xs
  | [], _ => by simp [val]
  | x :: r, h => by
    have h1 := h.head
    have h2 := val_nonneg hB h.tail
    have := Int.mul_nonneg hB h2
    simp only [val]
    lia
theorem val_lt {B : Int} (hB : 0 < B) : ∀ {xs : List Int}, Lm B xs → val B xs < B ^ xs.length
  | [], _ => by simp [val]
  | x :: r, h => by
    have h1 := h.head
    have h2 := val_lt hB h.tail
    have h3 : B * (val B r + 1) ≤ B * B ^ r.length := Int.mul_le_mul_of_nonneg_left (by lia) (by lia)
    simp only [val, List.length_cons, Int.pow_succ]
    rw [Int.mul_comm (B ^ r.length) B]
    rw [Int.mul_add] at h3
    lia

theorem dg_zero (B : Nat) : dg B 0 = [] := by rw [dg]; simp
theorem dg_pos {B n : Nat} (hB : 2 ≤ B) (hn : 0 < n) : dg B n = ((n % B : Nat) : Int) :: dg B (n / B) := by
  rw [dg, dif_neg (by lia)]
theorem val_dg {B : Nat} (hB : 2 ≤ B) (n : Nat) : val B (dg B n) = n := by
  induction n using Nat.strongRecOn with
  | ind n ih =>
    rcases Nat.eq_zero_or_pos n with rfl | hn
    · rw [dg_zero]; rfl
    · rw [dg_pos hB hn, val, ih _ (Nat.div_lt_self hn (by lia))]
      have := Nat.mod_add_div n B
      exact_mod_cast this
theorem lm_dg {B : Nat} (hB : 2 ≤ B) (n : Nat) : Lm B (dg B n) := by
  induction n using Nat.strongRecOn with
  | ind n ih =>
    rcases Nat.eq_zero_or_pos n with rfl | hn
    · rw [dg_zero]; exact Lm.nil _
    · rw [dg_pos hB hn]
      have := Nat.mod_lt n (show B > 0 by lia)
      exact Lm.cons (by lia) (by lia) (ih _ (Nat.div_lt_self hn (by lia)))
theorem dg_nil {B n : Nat} (hB : 2 ≤ B) : dg B n = [] ↔ n = 0 := by
  constructor
  · intro h
    rcases Nat.eq_zero_or_pos n with rfl | hn
    · rfl
    · rw [dg_pos hB hn] at h; cases h
  · rintro rfl; exact dg_zero B
theorem dg_last {B : Nat} (hB : 2 ≤ B) (n : Nat) : ∀ x, (dg B n).getLast? = some x → x ≠ 0 := by
  induction n using Nat.strongRecOn with
  | ind n ih =>
    intro x hx
    rcases Nat.eq_zero_or_pos n with rfl | hn
    · rw [dg_zero] at hx; cases hx
    · rw [dg_pos hB hn] at hx
      have hd := Nat.div_lt_self hn (show 1 < B by lia)
      rcases Nat.eq_zero_or_pos (n / B) with h0 | h0
      · rw [h0, dg_zero] at hx
        simp at hx
        have := Nat.mod_add_div n B
        rw [h0] at this
        lia
      · rw [List.getLast?_cons_of_ne_nil (by rw [Ne, dg_nil hB]; lia)] at hx
        exact ih _ hd x hx
/-- the limbs are told by the number -/
theorem dg_uniq {B : Nat} (hB : 2 ≤ B) : ∀ {xs : List Int}, Lm B xs → (∀ x, xs.getLast? = some x → x ≠ 0) → xs = dg B (val B xs).toNat
  | [], _, _ => by rw [val]; exact (dg_zero B).symm
  | x :: r, h, hl => by
    have h1 := h.head
    have h2 := val_nonneg (by (clear hB; lia)) h.tail
    have hr : ∀ y, r.getLast? = some y → y ≠ 0 := fun y hy => hl y (by
      rw [List.getLast?_cons_of_ne_nil (fun e => by subst e; cases hy)]; exact hy)
    have ih := dg_uniq hB h.tail hr
    have hm := Int.mul_nonneg (show (0 : Int) ≤ B by (clear hB; lia)) h2
    have hpos : 0 < val B (x :: r) := by
      rcases Int.lt_or_eq_of_le h2 with q | q
      · have : (B : Int) * 1 ≤ B * val B r := Int.mul_le_mul_of_nonneg_left (by (clear h2; lia)) (by (clear hB; lia))
        simp only [val]; (clear hB; lia)
      · have hn : r = [] := by
          rw [ih, ← q]; exact dg_zero B
        subst hn
        have := hl x rfl
        simp only [val]; lia
    rw [dg_pos hB (by lia)]
    have e1 : (val B (x :: r)).toNat % B = x.toNat := by
      have : (val B (x :: r)).toNat = x.toNat + B * (val B r).toNat := by
        simp only [val]
        have hz : ((B * (val B r).toNat : Nat) : Int) = B * val B r := by push_cast; rw [Int.toNat_of_nonneg h2]
        (clear hm; lia)
      rw [this, Nat.add_mul_mod_self_left, Nat.mod_eq_of_lt (by lia)]
    have e2 : (val B (x :: r)).toNat / B = (val B r).toNat := by
      have : (val B (x :: r)).toNat = x.toNat + B * (val B r).toNat := by
        simp only [val]
        have hz : ((B * (val B r).toNat : Nat) : Int) = B * val B r := by push_cast; rw [Int.toNat_of_nonneg h2]
        (clear e1 hm; lia)
      rw [this, Nat.add_mul_div_left _ _ (by lia), Nat.div_eq_of_lt (by (clear e1; lia))]; lia
    rw [e1, e2, ← ih]
    congr 1
    (clear e1; lia)
theorem dg_of {B : Nat} (hB : 2 ≤ B) {xs : List Int} {n : Nat} (h : Lm B xs) (hl : ∀ x, xs.getLast? = some x → x ≠ 0) (hv : val B xs = n) : xs = dg B n := by
  have := dg_uniq hB h hl
  rw [hv] at this
  simpa using this

theorem val_norm (B : Int) (xs : List Int) : val B (norm xs) = val B xs := by
  unfold norm
  have : ∀ r : List Int, val B ((r.dropWhile (· == 0)).reverse) = val B r.reverse := by
    intro r
    induction r with
    | nil => rfl
    | cons x r ih =>
      rw [List.dropWhile_cons]
      split
      · rename_i hx
        have hx : x = 0 := by simpa using hx
        rw [ih, List.reverse_cons, val_append, hx]
        simp [val]
      · rfl
  rw [this, List.reverse_reverse]
theorem norm_sub {xs : List Int} {x : Int} (h : x ∈ norm xs) : x ∈ xs := by
  unfold norm at h
  have := (List.dropWhile_sublist (· == 0) (l := xs.reverse)).subset (List.mem_reverse.mp h)
  exact List.mem_reverse.mp this
theorem norm_last {xs : List Int} : ∀ x, (norm xs).getLast? = some x → x ≠ 0 := by
  intro x hx
  unfold norm at hx
  rw [List.getLast?_reverse] at hx
  have := List.head?_dropWhile_not (· == 0) xs.reverse
  rw [hx] at this
  simpa using this
theorem norm_dg {B : Nat} (hB : 2 ≤ B) {xs : List Int} {n : Nat} (h : Lm B xs) (hv : val B xs = n) : norm xs = dg B n :=
  dg_of hB (fun x hx => h x (norm_sub hx)) norm_last (by rw [val_norm, hv])
theorem dg_len {B : Nat} (hB : 2 ≤ B) {k : Nat} : ∀ {n : Nat}, n < B ^ k → (dg B n).length ≤ k := by
  induction k with
  | zero => intro n h; have : n = 0 := by simpa using h
            subst this; simp [dg_zero]
  | succ k ih =>
    intro n h
    rcases Nat.eq_zero_or_pos n with rfl | hn
    · simp [dg_zero]
    · rw [dg_pos hB hn, List.length_cons]
      have : n / B < B ^ k := by rw [Nat.div_lt_iff_lt_mul (by lia)]; rw [Nat.pow_succ] at h; exact h
      have := ih this
      lia
theorem dg_len2 {w n k : Nat} (hw : 1 ≤ w) (h : n < 2 ^ k) : (dg (2 ^ w) n).length ≤ k := by
  refine dg_len (by calc 2 = 2 ^ 1 := rfl
                         _ ≤ 2 ^ w := Nat.pow_le_pow_right (by lia) hw) (Nat.lt_of_lt_of_le h ?_)
  rw [← Nat.pow_mul]
  exact Nat.pow_le_pow_right (by lia) (Nat.le_mul_of_pos_left k hw)
theorem base_two {w : Nat} (hw : 1 ≤ w) : 2 ≤ 2 ^ w := by
  calc 2 = 2 ^ 1 := rfl
       _ ≤ 2 ^ w := Nat.pow_le_pow_right (by lia) hw

/-- bits -/
theorem twoPos (k : Nat) : (0 : Int) < 2 ^ k := Int.pow_pos (by decide)
theorem castB (W : Nat) : ((2 ^ W : Nat) : Int) = (2 : Int) ^ W := Int.natCast_pow 2 W
theorem toNat_two (w : Nat) : ((2 : Int) ^ w).toNat = 2 ^ w := by rw [← castB]; rfl
theorem toNat_mask (w : Nat) : ((2 : Int) ^ w - 1).toNat = 2 ^ w - 1 := by
  have := castB w; have := Nat.two_pow_pos w; (clear this; lia)
theorem mod_neg (x u : Int) (hu : 0 < u) : u - 1 - (-x - 1) % u = x % u := by
  have a := Int.mul_ediv_add_emod (-x - 1) u
  have b := Int.emod_nonneg (-x - 1) (Int.ne_of_gt hu)
  have c := Int.emod_lt_of_pos (-x - 1) hu
  refine ((Int.ediv_emod_unique (q := -((-x - 1) / u) - 1) hu).mpr ⟨?_, by (omega), by (omega)⟩).2.symm
  generalize (-x - 1) / u = q at *
  generalize (-x - 1) % u = r at *
  rw [Int.mul_sub, Int.mul_neg]
  lia
theorem and_mask (x : Int) (w : Nat) : PySem.Builtin.bitAnd x (2 ^ w - 1) = x % 2 ^ w := by
  have hp := twoPos w
  by_cases hx : 0 ≤ x
  · obtain ⟨n, rfl⟩ := Int.eq_ofNat_of_zero_le hx
    rw [PyProof.Rows.bitAnd_pp hx (by lia), toNat_mask, Int.toNat_natCast, Nat.and_two_pow_sub_one_eq_mod, Int.natCast_emod, castB]
  · have hy : 0 ≤ PySem.Builtin.bitNot x := PyProof.Rows.bitNot_nonneg.mpr hx
    rw [PyProof.Rows.bitAnd_np hx (by lia), toNat_mask, Nat.and_comm, Nat.and_two_pow_sub_one_eq_mod, Int.natCast_emod, castB, Int.toNat_of_nonneg hy]
    exact mod_neg x _ hp
end Mine
end

section -- Mth2
namespace Mine
open PySem

theorem and_low (b : Int) (k : Nat) (a : Int) (h0 : 0 ≤ a) (h1 : a < 2 ^ k) : Builtin.bitAnd (b * 2 ^ k) a = 0 := by
  have hp := twoPos k
  obtain ⟨n, rfl⟩ := Int.eq_ofNat_of_zero_le h0
  have hn : n < 2 ^ k := by have := castB k; lia
  have low : ∀ m : Nat, 2 ^ k * m &&& n = 0 := fun m => by
    refine Nat.eq_of_testBit_eq fun i => ?_
    rw [Nat.testBit_and, Nat.zero_testBit, Nat.testBit_two_pow_mul]
    by_cases hi : k ≤ i
    · rw [Nat.testBit_lt_two_pow (Nat.lt_of_lt_of_le hn (Nat.pow_le_pow_right (by decide) hi))]; simp
    · simp [hi]
  by_cases hb : 0 ≤ b
  · obtain ⟨m, rfl⟩ := Int.eq_ofNat_of_zero_le hb
    have e : (m : Int) * 2 ^ k = ((2 ^ k * m : Nat) : Int) := by rw [Int.natCast_mul, castB, Int.mul_comm]
    rw [e, PyProof.Rows.bitAnd_pp (Int.natCast_nonneg _) h0, Int.toNat_natCast, Int.toNat_natCast, low]
    rfl
  · obtain ⟨m, hm⟩ := Int.eq_ofNat_of_zero_le (show 0 ≤ -b - 1 by lia)
    have e : Builtin.bitNot (b * 2 ^ k) = ((2 ^ k * m + (2 ^ k - 1) : Nat) : Int) := by
      have z := Nat.two_pow_pos k
      have z2 := castB k
      have : b = -(m : Int) - 1 := by lia
      subst this
      unfold Builtin.bitNot
      rw [Int.natCast_add, Int.natCast_mul, castB, Int.sub_mul, Int.neg_mul, Int.mul_comm (m : Int)]
      lia
    have hneg : ¬ 0 ≤ b * 2 ^ k := fun q => by
      have := Int.mul_lt_mul_of_pos_right (show b < 0 by lia) hp
      lia
    rw [PyProof.Rows.bitAnd_np hneg h0, e, Int.toNat_natCast, Int.toNat_natCast, Nat.two_pow_add_eq_or_of_lt (by have := Nat.two_pow_pos k; (omega)), Nat.and_comm, Nat.and_or_distrib_right, low, Nat.zero_or, Nat.and_comm, Nat.and_two_pow_sub_one_eq_mod, Nat.mod_eq_of_lt hn]
    lia
theorem or_low {a b : Int} {k : Nat} (h0 : 0 ≤ a) (h1 : a < 2 ^ k) : Builtin.bitOr (b * 2 ^ k) a = b * 2 ^ k + a := by
  rw [PyProof.Rows.bitOr_and, and_low b k a h0 h1]; lia
theorem or_low' {a b : Int} {k : Nat} (h0 : 0 ≤ a) (h1 : a < 2 ^ k) : Builtin.bitOr a (b * 2 ^ k) = a + b * 2 ^ k := by
  rw [PyProof.Rows.bitOr_comm, or_low h0 h1]; lia

section
variable {B : Int}
theorem val_one (x : Int) : val B [x] = x := by simp [val]
theorem val_nil : val B [] = 0 := rfl
theorem val_take {xs : List Int} {k : Nat} (hk : k < xs.length) : val B (xs.take (k + 1)) = val B (xs.take k) + B ^ k * xs.getD k 0 := by
  rw [List.take_succ, List.getElem?_eq_getElem hk, List.getD_eq_getElem?_getD, List.getElem?_eq_getElem hk]
  simp only [Option.toList, Option.getD_some]
  rw [val_append, val_one, List.length_take, Nat.min_eq_left (Nat.le_of_lt hk)]
theorem val_drop {xs : List Int} {k : Nat} (hk : k < xs.length) : val B (xs.drop k) = xs.getD k 0 + B * val B (xs.drop (k + 1)) := by
  rw [List.drop_eq_getElem_cons hk, val, List.getD_eq_getElem?_getD, List.getElem?_eq_getElem hk]; rfl
theorem val_split (xs : List Int) (k : Nat) (hk : k ≤ xs.length) : val B xs = val B (xs.take k) + B ^ k * val B (xs.drop k) := by
  have := val_append B (xs.take k) (xs.drop k)
  rw [List.take_append_drop, List.length_take, Nat.min_eq_left hk] at this
  exact this
theorem val_rep (n : Nat) : val B (List.replicate n 0) = 0 := by
  induction n with
  | zero => rfl
  | succ n ih => rw [List.replicate_succ, val, ih]; simp
theorem val_set {xs : List Int} {k : Nat} (hk : k < xs.length) (x : Int) : val B (xs.set k x) = val B xs + B ^ k * (x - xs.getD k 0) := by
  induction xs generalizing k with
  | nil => simp at hk
  | cons y r ih =>
    cases k with
    | zero => simp [val]; grind
    | succ k =>
      simp only [List.length_cons] at hk
      rw [List.set_cons_succ, val, ih (by lia), val, List.getD_cons_succ, Int.pow_succ]
      grind
/-- one limb handed on, the rest carried -/
theorem push_step {f : List Int} {k : Nat} {c S x : Int} (hk : f.length = k) (h : val B f + B ^ k * c = S) : val B (f ++ [(c + x) % B]) + B ^ (k + 1) * ((c + x) / B) = S + B ^ k * x := by
  rw [val_append, val_one, hk, Int.pow_succ]
  have := Int.emod_add_mul_ediv (c + x) B
  grind
theorem Lm.push {f : List Int} {x : Int} (hB : 0 < B) (h : Lm B f) : Lm B (f ++ [x % B]) := h.append (Lm.cons (Int.emod_nonneg _ (by lia)) (Int.emod_lt_of_pos _ hB) (Lm.nil _))
theorem Lm.snoc {f : List Int} {x : Int} (h : Lm B f) (h0 : 0 ≤ x) (h1 : x < B) : Lm B (f ++ [x]) := h.append (Lm.cons h0 h1 (Lm.nil _))
theorem Lm.rep {n : Nat} (hB : 0 < B) : Lm B (List.replicate n 0) := fun y hy => by have := List.eq_of_mem_replicate hy; lia
theorem Lm.lt_take {xs : List Int} (hB : 0 < B) (h : Lm B xs) {k : Nat} (hk : k ≤ xs.length) : 0 ≤ val B (xs.take k) ∧ val B (xs.take k) < B ^ k := by
  have := val_lt hB (h.take k)
  rw [List.length_take, Nat.min_eq_left hk] at this
  exact ⟨val_nonneg (by lia) (h.take k), this⟩
theorem powpos (hB : 0 < B) (k : Nat) : 0 < B ^ k := Int.pow_pos hB
theorem powle (hB : 0 < B) {j k : Nat} (h : j ≤ k) : B ^ j ≤ B ^ k := by
  obtain ⟨d, rfl⟩ := Nat.le.dest h
  rw [Int.pow_add]
  have := powpos hB d
  have h2 := powpos hB j
  have : B ^ j * 1 ≤ B ^ j * B ^ d := Int.mul_le_mul_of_nonneg_left (by lia) (by lia)
  lia
end
section
variable {B : Nat}
theorem last_of_ge {xs : List Int} (hB : 2 ≤ B) (h : Lm B xs) (hl : xs.length = 0 ∨ (B : Int) ^ (xs.length - 1) ≤ val B xs) : ∀ x, xs.getLast? = some x → x ≠ 0 := by
  intro x hx hz
  subst hz
  obtain ⟨ys, rfl⟩ : ∃ ys, xs = ys ++ [0] := by
    obtain ⟨ys, hy⟩ := List.getLast?_eq_some_iff.mp hx
    exact ⟨ys, hy⟩
  rw [val_append, val_one, List.length_append] at hl
  simp at hl
  have := val_lt (B := (B : Int)) (by lia) (xs := ys) (fun y hy => h y (List.mem_append_left _ hy))
  lia
theorem dg_of_ge {xs : List Int} {n : Nat} (hB : 2 ≤ B) (h : Lm B xs) (hl : xs.length = 0 ∨ (B : Int) ^ (xs.length - 1) ≤ val B xs) (hv : val B xs = n) : xs = dg B n := dg_of hB h (last_of_ge hB h hl) hv
theorem dg_ge (hB : 2 ≤ B) (n : Nat) : (dg B n).length = 0 ∨ (B : Int) ^ ((dg B n).length - 1) ≤ n := by
  rcases Nat.eq_zero_or_pos (dg B n).length with q | q
  · exact .inl q
  · right
    have hl := dg_last hB n
    have hv := val_dg hB n
    have hm := lm_dg hB n
    generalize dg B n = xs at *
    obtain ⟨ys, x, rfl⟩ : ∃ ys x, xs = ys ++ [x] := ⟨xs.dropLast, xs.getLast (List.ne_nil_of_length_pos q), (List.dropLast_concat_getLast _).symm⟩
    have hx : x ≠ 0 := hl x (by simp)
    have hx2 := hm x (by simp)
    have := val_nonneg (B := (B : Int)) (by (clear hB; lia)) (xs := ys) (fun y hy => hm y (List.mem_append_left _ hy))
    rw [val_append, val_one] at hv
    have hp := powpos (B := (B : Int)) (by lia) ys.length
    have : (B : Int) ^ ys.length * 1 ≤ (B : Int) ^ ys.length * x := Int.mul_le_mul_of_nonneg_left (by lia) (by lia)
    simp only [List.length_append, List.length_singleton, Nat.add_sub_cancel]
    lia
theorem dg_lt (hB : 2 ≤ B) (n : Nat) : (n : Int) < (B : Int) ^ (dg B n).length := by
  have := val_lt (B := (B : Int)) (by lia) (lm_dg hB n)
  rwa [val_dg hB] at this
theorem dg_len_lt (hB : 2 ≤ B) {n m : Nat} (h : (dg B n).length < (dg B m).length) : n < m := by
  have h1 := dg_lt hB n
  have h2 := dg_ge hB m
  have h3 := powle (B := (B : Int)) (by lia) (show (dg B n).length ≤ (dg B m).length - 1 by lia)
  lia
theorem dg_inj (hB : 2 ≤ B) {n m : Nat} (h : dg B n = dg B m) : n = m := by
  have h1 := val_dg hB n
  have h2 := val_dg hB m
  rw [h] at h1
  lia
theorem drop_lt {xs ys : List Int} {i : Nat} (hB : 2 ≤ B) (hx : Lm B xs) (hy : Lm B ys) (hl : xs.length = ys.length) (hi : i < xs.length) (hd : xs.drop (i + 1) = ys.drop (i + 1)) (h : xs.getD i 0 < ys.getD i 0) : val B xs < val B ys := by
  rw [val_split xs i (by lia), val_split ys i (by lia), val_drop (xs := xs) hi, val_drop (xs := ys) (k := i) (by lia), hd]
  have h1 := hx.lt_take (B := (B : Int)) (by lia) (show i ≤ xs.length by lia)
  have h2 := hy.lt_take (B := (B : Int)) (by lia) (show i ≤ ys.length by lia)
  have hp := powpos (B := (B : Int)) (by lia) i
  have : (B : Int) ^ i * (xs.getD i 0 + B * val B (ys.drop (i + 1)) + 1) ≤ (B : Int) ^ i * (ys.getD i 0 + B * val B (ys.drop (i + 1))) := Int.mul_le_mul_of_nonneg_left (by lia) (by lia)
  rw [Int.mul_add, Int.mul_one] at this
  (omega)
theorem dg_single (hB : 2 ≤ B) {x : Int} (h0 : 0 ≤ x) (h1 : x < B) : dg B x.toNat = if x > 0 then [x] else [] := by
  split
  · refine (dg_of hB (Lm.cons h0 h1 (Lm.nil _)) (fun y hy => by simp at hy; lia) ?_).symm
    rw [val_one]; lia
  · have : x.toNat = 0 := by lia
    rw [this, dg_zero]
end
theorem two_le {W : Nat} (hW : 1 ≤ W) : (2 : Int) ≤ 2 ^ W := by
  have := base_two hW
  rw [← castB]; lia
theorem pow_small {W : Nat} (hW : W ≤ 12) : (2 : Int) ^ W ≤ 4096 := by
  have : (2 : Nat) ^ W ≤ 2 ^ 12 := Nat.pow_le_pow_right (by decide) hW
  rw [← castB]; lia
end Mine
end

section -- Mth3
namespace Mine
open PySem
/-- the lowest limbs of a number, as many as told -/
noncomputable def pd (B : Int) : Nat → Int → List Int
  | 0, _ => []
  | n + 1, v => v % B :: pd B n (v / B)
section
variable {B : Int}
theorem pd_len : ∀ (n : Nat) (v : Int), (pd B n v).length = n
  | 0, _ => rfl
  | n + 1, v => by rw [pd, List.length_cons, pd_len n]
theorem pd_lm (hB : 0 < B) : ∀ (n : Nat) (v : Int), Lm B (pd B n v)
  | 0, _ => Lm.nil _
  | n + 1, v => Lm.cons (Int.emod_nonneg _ (by lia)) (Int.emod_lt_of_pos _ hB) (pd_lm hB n _)
theorem pd_val (hB : 0 < B) : ∀ (n : Nat) (v : Int), 0 ≤ v → v < B ^ n → val B (pd B n v) = v
  | 0, v, h0, h1 => by simp at h1; simp [pd, val]; lia
  | n + 1, v, h0, h1 => by
    rw [pd, val, pd_val hB n (v / B) (Int.ediv_nonneg h0 (by lia)) (Int.ediv_lt_of_lt_mul hB (by rw [Int.pow_succ] at h1; exact h1))]
    have := Int.emod_add_mul_ediv v B
    (omega)
theorem pd_of (hB : 0 < B) : ∀ {xs : List Int} {v : Int} {n : Nat}, Lm B xs → xs.length = n → val B xs = v → xs = pd B n v
  | [], v, n, _, hl, hv => by subst hl; rfl
  | x :: r, v, n, h, hl, hv => by
    subst hl
    have hx := h.head
    have : x + B * val B r = v := hv
    have e := (Int.ediv_emod_unique hB (a := v) (r := x) (q := val B r)).mpr ⟨by (omega), hx.1, hx.2⟩
    rw [List.length_cons, pd, e.1, e.2, ← pd_of hB h.tail rfl rfl]
theorem lm_uniq (hB : 0 < B) {xs ys : List Int} (hx : Lm B xs) (hy : Lm B ys) (hl : xs.length = ys.length) (hv : val B xs = val B ys) : xs = ys := by
  rw [pd_of hB hx hl hv, ← pd_of hB hy rfl rfl]
theorem pd_zero (hB : 0 < B) (n : Nat) : pd B n 0 = List.replicate n 0 := (pd_of hB (Lm.rep hB) (by simp) (val_rep n)).symm
theorem val_lt_of_drop (hB : 0 < B) {xs : List Int} {k : Nat} (hx : Lm B xs) (hk : k ≤ xs.length) (h : val B (xs.drop k) = 0) : val B xs < B ^ k := by
  rw [val_split xs k hk, h]
  have := (hx.lt_take hB hk).2
  lia
theorem drop_zero_of (hB : 0 < B) {xs : List Int} {k : Nat} (hx : Lm B xs) (hk : k ≤ xs.length) (h : val B xs < B ^ k) : val B (xs.drop k) = 0 := by
  have e := val_split (B := B) xs k hk
  have h1 := (hx.lt_take hB hk).1
  have h2 := val_nonneg (B := B) (by lia) (hx.drop k)
  have hp := powpos hB k
  rcases Int.lt_or_eq_of_le h2 with q | q
  · have : B ^ k * 1 ≤ B ^ k * val B (xs.drop k) := Int.mul_le_mul_of_nonneg_left (by (clear h2; lia)) (by lia)
    lia
  · exact q.symm
/-- the whole part behind a power -/
theorem val_drop_div (hB : 0 < B) {xs : List Int} {k : Nat} (hx : Lm B xs) (hk : k ≤ xs.length) : val B xs / B ^ k = val B (xs.drop k) := by
  have e := val_split (B := B) xs k hk
  have h1 := hx.lt_take hB hk
  exact ((Int.ediv_emod_unique (powpos hB k) (r := val B (xs.take k))).mpr ⟨by lia, h1.1, h1.2⟩).1
end
theorem norm_pd {B : Nat} (hB : 2 ≤ B) {n : Nat} {v : Int} (h0 : 0 ≤ v) (h1 : v < (B : Int) ^ n) : norm (pd B n v) = dg B v.toNat :=
  norm_dg hB (pd_lm (by lia) n v) (by rw [pd_val (by lia) n v h0 h1]; lia)
/-- the guess of a limb -/
theorem guess_lo {U V q : Int} (hV : 0 < V) (h : U < q * V) : U / V ≤ q - 1 := by
  have := Int.ediv_lt_of_lt_mul hV h
  lia
/-- Knuth's bound -/
theorem knuth {B U V M low lowN N D q : Int} (hB : 1 < B) (hM : 0 < M) (hV : B ≤ V) (l0 : 0 ≤ low) (l1 : low < M) (n0 : 0 ≤ lowN) (n1 : lowN < M) (hD : D = V * M + low) (hN : N = U * M + lowN) (hU : 0 ≤ U) (hlt : N < D * B)
    (hq : q = if B - 1 < U / V then B - 1 else U / V) : N / D ≤ q ∧ q ≤ N / D + 1 := by
  have hVM : V * 1 ≤ V * M := Int.mul_le_mul_of_nonneg_left (by lia) (by lia)
  have hDp : 0 < D := by lia
  have hN0 : 0 ≤ N := by have := Int.mul_nonneg hU (Int.le_of_lt hM); lia
  have hqV : q * V ≤ U := by
    have h1 : q ≤ U / V := by rw [hq]; split <;> lia
    have h2 := Int.mul_le_mul_of_nonneg_right h1 (show 0 ≤ V by lia)
    have h3 := Int.ediv_mul_le U (show V ≠ 0 by lia)
    lia
  have q0 : 0 ≤ q := by have := Int.ediv_nonneg hU (show 0 ≤ V by lia); rw [hq]; split <;> (omega)
  have q1 : q ≤ B - 1 := by rw [hq]; split <;> lia
  constructor
  · have h1 : N / D ≤ B - 1 := by have := Int.ediv_lt_of_lt_mul hDp (by rw [Int.mul_comm]; exact hlt); lia
    have h2 : N / D ≤ U / V := by
      have e1 := Int.ediv_mul_le N (show D ≠ 0 by (clear hD; lia))
      have t0 := Int.ediv_nonneg hN0 (show 0 ≤ D by (clear hVM hD; lia))
      generalize N / D = t at *
      have e2 : t * D = t * V * M + t * low := by rw [hD]; grind
      have e3 := Int.mul_nonneg t0 l0
      have e4 : t * V * M < (U + 1) * M := by rw [Int.add_mul]; lia
      have e5 : t * V < U + 1 := Int.lt_of_mul_lt_mul_right e4 (by lia)
      exact Int.le_ediv_of_mul_le (by lia) (by lia)
    rw [hq]; split <;> (omega)
  · have h1 : (q - 1) * D ≤ N := by
      have e1 : (q - 1) * D = q * V * M + q * low - D := by rw [hD]; grind
      have e2 : q * V * M ≤ U * M := Int.mul_le_mul_of_nonneg_right hqV (by lia)
      have e3 : q * low ≤ (B - 1) * M := Int.mul_le_mul q1 (by lia) l0 (by lia)
      have e4 : B * M ≤ V * M := Int.mul_le_mul_of_nonneg_right hV (by lia)
      rw [Int.sub_mul] at e3
      lia
    have := Int.le_ediv_of_mul_le hDp h1
    lia
end Mine
end

section -- Mth4
namespace Mine
noncomputable def dotI : List Int → List Int → Int
  | x :: xs, y :: ys => x * y + dotI xs ys
  | _, _ => 0
theorem dotI_take : ∀ {xs ys : List Int} {k : Nat} {x y : Int}, xs[k]? = some x → ys[k]? = some y → dotI (xs.take (k + 1)) (ys.take (k + 1)) = dotI (xs.take k) (ys.take k) + x * y
  | [], _, _, _, _, h, _ => by simp at h
  | _ :: _, [], _, _, _, _, h => by simp at h
  | a :: xs, b :: ys, 0, x, y, h1, h2 => by simp at h1 h2; subst h1 h2; simp [dotI]
  | a :: xs, b :: ys, k + 1, x, y, h1, h2 => by
    simp only [List.getElem?_cons_succ] at h1 h2
    have := dotI_take h1 h2
    simp only [List.take_succ_cons, dotI, this]
    lia
theorem dotI_bound : ∀ {xs ys : List Int} {b c : Nat}, (∀ x ∈ xs, x.natAbs < b) → (∀ y ∈ ys, y.natAbs < c) → (dotI xs ys).natAbs ≤ xs.length * (b * c)
  | [], _, _, _, _, _ => by simp [dotI]
  | _ :: _, [], _, _, _, _ => by simp [dotI]
  | x :: xs, y :: ys, b, c, h1, h2 => by
    have ih := dotI_bound (fun z hz => h1 z (List.mem_cons_of_mem _ hz)) (fun z hz => h2 z (List.mem_cons_of_mem _ hz))
    have e1 := h1 x List.mem_cons_self
    have e2 := h2 y List.mem_cons_self
    have e3 : (x * y).natAbs ≤ b * c := by rw [Int.natAbs_mul]; exact Nat.mul_le_mul (Nat.le_of_lt e1) (Nat.le_of_lt e2)
    simp only [dotI, List.length_cons, Nat.succ_mul]
    (omega)

noncomputable def lessI (xs ys : List Int) (m : Int) : List Int := List.zipWith (fun x y => x - y * m) xs ys
/-- Gauss's reduction, by fuel -/
noncomputable def gaussI : Nat → List Int → List Int → List Int × List Int
  | 0, u, v => (u, v)
  | n + 1, u, v =>
    let p := if dotI u u > dotI v v then (v, u) else (u, v)
    if dotI p.1 p.1 = 0 then p else
    let m := (2 * dotI p.1 p.2 + dotI p.1 p.1) / (2 * dotI p.1 p.1)
    if m = 0 then p else
    let q := lessI p.2 p.1 m
    if dotI p.1 p.1 ≤ dotI q q then (p.1, q) else gaussI n p.1 q
noncomputable def gstep (k : Nat) (u v : List Int) : List Int × List Int :=
  if dotI u u = 0 then (u, v) else if (2 * dotI u v + dotI u u) / (2 * dotI u u) = 0 then (u, v) else if dotI u u ≤ dotI (lessI v u ((2 * dotI u v + dotI u u) / (2 * dotI u u))) (lessI v u ((2 * dotI u v + dotI u u) / (2 * dotI u u))) then (u, lessI v u ((2 * dotI u v + dotI u u) / (2 * dotI u u))) else gaussI k u (lessI v u ((2 * dotI u v + dotI u u) / (2 * dotI u u)))
theorem gaussI_gt {k : Nat} {u v : List Int} (h : dotI v v < dotI u u) : gaussI (k + 1) u v = gstep k v u := by
  rw [gaussI]; simp only [gt_iff_lt, h, if_true]; rfl
theorem gaussI_le {k : Nat} {u v : List Int} (h : ¬ dotI v v < dotI u u) : gaussI (k + 1) u v = gstep k u v := by
  rw [gaussI]; simp only [gt_iff_lt, h, if_false]; rfl
theorem sq_nonneg (x : Int) : 0 ≤ x * x := by
  rcases Int.le_total 0 x with h | h
  · exact Int.mul_nonneg h h
  · exact Int.mul_nonneg_of_nonpos_of_nonpos h h
theorem dotI_self_nonneg : ∀ u : List Int, 0 ≤ dotI u u
  | [] => by simp [dotI]
  | x :: u => by
    have := dotI_self_nonneg u
    have := sq_nonneg x
    simp only [dotI]; lia
theorem natAbs_le_sq (x : Int) : (x.natAbs : Int) ≤ x * x := by
  rcases Int.lt_trichotomy x 0 with h | h | h
  · have : (-x) * 1 ≤ (-x) * (-x) := Int.mul_le_mul_of_nonneg_left (by lia) (by lia)
    rw [Int.neg_mul_neg] at this; lia
  · subst h; decide
  · have : x * 1 ≤ x * x := Int.mul_le_mul_of_nonneg_left (by lia) (by lia)
    lia
theorem entry_le : ∀ {u : List Int} {x : Int}, x ∈ u → (x.natAbs : Int) ≤ dotI u u
  | [], _, h => by simp at h
  | a :: u, x, h => by
    have h1 := dotI_self_nonneg u
    have h2 := natAbs_le_sq a
    simp only [dotI]
    rcases List.mem_cons.mp h with rfl | h
    · lia
    · have := entry_le h
      lia
theorem dotI_cs : ∀ {u v : List Int}, 2 * ((dotI u v).natAbs : Int) ≤ dotI u u + dotI v v
  | [], v => by have := dotI_self_nonneg v; simp [dotI]; exact this
  | x :: u, [] => by
    have h1 := dotI_self_nonneg u
    have h2 := sq_nonneg x
    simp [dotI]; lia
  | x :: u, y :: v => by
    have ih := @dotI_cs u v
    have h1 : 0 ≤ (x + y) * (x + y) := sq_nonneg _
    have h2 : 0 ≤ (x - y) * (x - y) := sq_nonneg _
    have e1 : (x + y) * (x + y) = x * x + y * y + 2 * (x * y) := by grind
    have e2 : (x - y) * (x - y) = x * x + y * y - 2 * (x * y) := by grind
    simp only [dotI]
    (omega)
theorem dotI_comm : ∀ (u v : List Int), dotI u v = dotI v u
  | [], [] => rfl
  | [], _ :: _ => rfl
  | _ :: _, [] => rfl
  | x :: u, y :: v => by simp only [dotI, dotI_comm u v, Int.mul_comm x y]
theorem lessI_len {u v : List Int} {m : Int} (h : u.length = v.length) : (lessI u v m).length = u.length := by simp [lessI, h]
theorem lessI_mem : ∀ {u v : List Int} {m z : Int}, z ∈ lessI u v m → ∃ x ∈ u, ∃ y ∈ v, z = x - y * m
  | [], _, _, _, h => by simp [lessI] at h
  | _ :: _, [], _, _, h => by simp [lessI] at h
  | a :: u, b :: v, m, z, h => by
    simp only [lessI, List.zipWith_cons_cons, List.mem_cons] at h
    rcases h with rfl | h
    · exact ⟨a, List.mem_cons_self, b, List.mem_cons_self, rfl⟩
    · obtain ⟨x, hx, y, hy, e⟩ := lessI_mem (u := u) (v := v) h
      exact ⟨x, List.mem_cons_of_mem _ hx, y, List.mem_cons_of_mem _ hy, e⟩
end Mine
end

section -- Mth5
namespace Mine
noncomputable def lin (a b : Int) (u v : List Int) : List Int := List.zipWith (fun x y => a * x + b * y) u v
theorem lin_len {a b : Int} {u v : List Int} (h : u.length = v.length) : (lin a b u v).length = u.length := by simp [lin, h]
theorem dotI_lin : ∀ {u v : List Int} (a b c d : Int), u.length = v.length → dotI (lin a b u v) (lin c d u v) = a * c * dotI u u + (a * d + b * c) * dotI u v + b * d * dotI v v
  | [], [], _, _, _, _, _ => by simp [lin, dotI]
  | [], _ :: _, _, _, _, _, h => by simp at h
  | _ :: _, [], _, _, _, _, h => by simp at h
  | x :: u, y :: v, a, b, c, d, h => by
    have ih := dotI_lin (u := u) (v := v) a b c d (by simpa using h)
    simp only [lin] at ih
    simp only [lin, List.zipWith_cons_cons, dotI, ih]
    grind
theorem lin_lin : ∀ {u v : List Int} (a b c d e f : Int), u.length = v.length → lin a b (lin c d u v) (lin e f u v) = lin (a * c + b * e) (a * d + b * f) u v
  | [], [], _, _, _, _, _, _, _ => by simp [lin]
  | [], _ :: _, _, _, _, _, _, _, h => by simp at h
  | _ :: _, [], _, _, _, _, _, _, h => by simp at h
  | x :: u, y :: v, a, b, c, d, e, f, h => by
    have ih := lin_lin (u := u) (v := v) a b c d e f (by simpa using h)
    simp only [lin] at ih
    simp only [lin, List.zipWith_cons_cons, ih]
    congr 1
    grind
theorem lin_fst : ∀ {u v : List Int}, u.length = v.length → lin 1 0 u v = u
  | [], [], _ => by simp [lin]
  | [], _ :: _, h => by simp at h
  | _ :: _, [], h => by simp at h
  | x :: u, y :: v, h => by
    have ih := lin_fst (u := u) (v := v) (by simpa using h)
    simp only [lin] at ih
    simp only [lin, List.zipWith_cons_cons, ih]
    congr 1
    lia
theorem lin_snd : ∀ {u v : List Int}, u.length = v.length → lin 0 1 u v = v
  | [], [], _ => by simp [lin]
  | [], _ :: _, h => by simp at h
  | _ :: _, [], h => by simp at h
  | x :: u, y :: v, h => by
    have ih := lin_snd (u := u) (v := v) (by simpa using h)
    simp only [lin] at ih
    simp only [lin, List.zipWith_cons_cons, ih]
    congr 1
    lia
/-- the same lattice -/
noncomputable def Lat (u v p q : List Int) : Prop := u.length = v.length ∧ p.length = u.length ∧ q.length = u.length ∧ ∃ a b c d e f g h : Int, p = lin a b u v ∧ q = lin c d u v ∧ u = lin e f p q ∧ v = lin g h p q
theorem Lat.refl {u v : List Int} (h : u.length = v.length) : Lat u v u v := ⟨h, rfl, h.symm, 1, 0, 0, 1, 1, 0, 0, 1, (lin_fst h).symm, (lin_snd h).symm, (lin_fst h).symm, (lin_snd h).symm⟩
theorem Lat.symm {u v p q : List Int} (h : Lat u v p q) : Lat p q u v := by
  obtain ⟨h1, h2, h3, a, b, c, d, e, f, g, k, e1, e2, e3, e4⟩ := h
  exact ⟨by lia, by lia, by lia, e, f, g, k, a, b, c, d, e3, e4, e1, e2⟩
theorem Lat.trans {u v p q r s : List Int} (h : Lat u v p q) (h' : Lat p q r s) : Lat u v r s := by
  obtain ⟨h1, h2, h3, a, b, c, d, e, f, g, k, e1, e2, e3, e4⟩ := h
  obtain ⟨i1, i2, i3, a', b', c', d', e', f', g', k', j1, j2, j3, j4⟩ := h'
  have hr : r.length = s.length := by lia
  refine ⟨h1, by lia, by lia, a' * a + b' * c, a' * b + b' * d, c' * a + d' * c, c' * b + d' * d, e * e' + f * g', e * f' + f * k', g * e' + k * g', g * f' + k * k', ?_, ?_, ?_, ?_⟩
  · rw [← lin_lin _ _ _ _ _ _ h1, ← e1, ← e2]; exact j1
  · rw [← lin_lin _ _ _ _ _ _ h1, ← e1, ← e2]; exact j2
  · rw [← lin_lin _ _ _ _ _ _ hr, ← j3, ← j4]; exact e3
  · rw [← lin_lin _ _ _ _ _ _ hr, ← j3, ← j4]; exact e4
theorem Lat.swap {u v : List Int} (h : u.length = v.length) : Lat u v v u := ⟨h, h.symm, rfl, 0, 1, 1, 0, 0, 1, 1, 0, (lin_snd h).symm, (lin_fst h).symm, (lin_snd h.symm).symm, (lin_fst h.symm).symm⟩
theorem less_lin : ∀ {u v : List Int} (m : Int), u.length = v.length → lessI v u m = lin (-m) 1 u v
  | [], [], _, _ => by simp [lessI, lin]
  | [], _ :: _, _, h => by simp at h
  | _ :: _, [], _, h => by simp at h
  | x :: u, y :: v, m, h => by
    have ih := less_lin (u := u) (v := v) m (by simpa using h)
    simp only [lessI, lin] at ih
    simp only [lessI, lin, List.zipWith_cons_cons, ih]
    congr 1
    grind
theorem Lat.lin2 {u v : List Int} (m : Int) (h : u.length = v.length) : Lat u v u (lin m 1 u v) := by
  have hl := lin_len (a := m) (b := 1) h
  refine ⟨h, rfl, hl, 1, 0, m, 1, 1, 0, -m, 1, (lin_fst h).symm, rfl, (lin_fst hl.symm).symm, ?_⟩
  have := lin_lin (u := u) (v := v) (-m) 1 1 0 m 1 h
  rw [lin_fst h] at this
  rw [this, show -m * 1 + 1 * m = (0 : Int) by lia, show -m * 0 + 1 * 1 = (1 : Int) by lia, lin_snd h]
theorem Lat.lin1 {u v : List Int} (m : Int) (h : u.length = v.length) : Lat u v (lin 1 m u v) v := by
  have hl := lin_len (a := 1) (b := m) h
  refine ⟨h, hl, h.symm, 1, m, 0, 1, 1, -m, 0, 1, rfl, (lin_snd h).symm, ?_, (lin_snd (by lia)).symm⟩
  have := lin_lin (u := u) (v := v) 1 (-m) 1 m 0 1 h
  rw [lin_snd h] at this
  rw [this, show 1 * 1 + -m * 0 = (1 : Int) by lia, show 1 * m + -m * 1 = (0 : Int) by lia, lin_fst h]
theorem Lat.neg1 {u v : List Int} (h : u.length = v.length) : Lat u v (lin (-1) 0 u v) v := by
  have hl := lin_len (a := -1) (b := 0) h
  refine ⟨h, hl, h.symm, -1, 0, 0, 1, -1, 0, 0, 1, rfl, (lin_snd h).symm, ?_, (lin_snd (by lia)).symm⟩
  have := lin_lin (u := u) (v := v) (-1) 0 (-1) 0 0 1 h
  rw [lin_snd h] at this
  rw [this, show -1 * -1 + 0 * 0 = (1 : Int) by decide, show -1 * 0 + 0 * 1 = (0 : Int) by decide, lin_fst h]
/-- what a reduced pair is -/
noncomputable def Red (p q : List Int) : Prop := dotI p p ≤ dotI q q ∧ 2 * dotI p q ≤ dotI p p ∧ -dotI p p ≤ 2 * dotI p q
theorem zero_of {p : List Int} (h : dotI p p = 0) : ∀ x ∈ p, x = 0 := fun x hx => by have := entry_le hx; lia
theorem dot_zero : ∀ {p : List Int} (q : List Int), (∀ x ∈ p, x = 0) → dotI p q = 0
  | [], _, _ => by simp [dotI]
  | _ :: _, [], _ => by simp [dotI]
  | x :: p, y :: q, h => by
    have := h x List.mem_cons_self
    subst this
    simp only [dotI, dot_zero q (fun z hz => h z (List.mem_cons_of_mem _ hz))]; simp
theorem gstep_ok {k : Nat} {u v : List Int} (h : u.length = v.length) (hle : dotI u u ≤ dotI v v) (hk : dotI u u + dotI v v < k + 1)
    (ih : ∀ u v : List Int, u.length = v.length → dotI u u + dotI v v < k → Lat u v (gaussI k u v).1 (gaussI k u v).2 ∧ Red (gaussI k u v).1 (gaussI k u v).2) : Lat u v (gstep k u v).1 (gstep k u v).2 ∧ Red (gstep k u v).1 (gstep k u v).2 := by
  have nu := dotI_self_nonneg u
  unfold gstep
  split
  · rename_i z
    have := dot_zero v (zero_of z)
    exact ⟨Lat.refl h, hle, by show 2 * dotI u v ≤ dotI u u; lia, by show -dotI u u ≤ 2 * dotI u v; lia⟩
  rename_i z
  have hs : 0 < 2 * dotI u u := by lia
  have e1 := Int.emod_add_mul_ediv (2 * dotI u v + dotI u u) (2 * dotI u u)
  have e2 := Int.emod_nonneg (2 * dotI u v + dotI u u) (show 2 * dotI u u ≠ 0 by lia)
  have e3 := Int.emod_lt_of_pos (2 * dotI u v + dotI u u) hs
  generalize (2 * dotI u v + dotI u u) / (2 * dotI u u) = m at *
  generalize (2 * dotI u v + dotI u u) % (2 * dotI u u) = r at *
  split
  · rename_i zm
    subst zm
    rw [Int.mul_zero] at e1
    exact ⟨Lat.refl h, hle, by show 2 * dotI u v ≤ dotI u u; lia, by show -dotI u u ≤ 2 * dotI u v; lia⟩
  have hlq := Lat.lin2 (-m) h
  rw [← less_lin m h] at hlq
  split
  · rename_i hle2
    have ed : dotI u (lessI v u m) = dotI u v - m * dotI u u := by
      have := dotI_lin (u := u) (v := v) 1 0 (-m) 1 h
      rw [lin_fst h, ← less_lin m h] at this
      rw [this]; grind
    have e4 : 2 * dotI u u * m = 2 * (m * dotI u u) := by grind
    refine ⟨hlq, hle2, ?_, ?_⟩
    · show 2 * dotI u (lessI v u m) ≤ dotI u u
      rw [ed]; lia
    · show -dotI u u ≤ 2 * dotI u (lessI v u m)
      rw [ed]; lia
  · rename_i hlt
    have := ih u (lessI v u m) (by rw [lessI_len h.symm]; exact h) (by lia)
    exact ⟨hlq.trans this.1, this.2⟩
theorem gaussI_ok : ∀ (n : Nat) (u v : List Int), u.length = v.length → dotI u u + dotI v v < n → Lat u v (gaussI n u v).1 (gaussI n u v).2 ∧ Red (gaussI n u v).1 (gaussI n u v).2
  | 0, u, v, _, h => by have := dotI_self_nonneg u; have := dotI_self_nonneg v; simp at h; lia
  | k + 1, u, v, h, hk => by
    by_cases c : dotI v v < dotI u u
    · rw [gaussI_gt c]
      have := gstep_ok (k := k) h.symm (by lia) (by push_cast at hk; lia) (gaussI_ok k)
      exact ⟨(Lat.swap h).trans this.1, this.2⟩
    · rw [gaussI_le c]
      exact gstep_ok (k := k) h (by lia) (by push_cast at hk; (omega)) (gaussI_ok k)
noncomputable def Big (S : Int) (p : List Int) : Prop := ∀ x ∈ p, (x.natAbs : Int) ≤ S + S * (2 * S + 1)
theorem gaussI_big {S : Int} (hS : 0 ≤ S) : ∀ (n : Nat) (u v : List Int), u.length = v.length → dotI u u + dotI v v ≤ S → Big S (gaussI n u v).1 ∧ Big S (gaussI n u v).2 := by
  have base : ∀ u v : List Int, dotI u u + dotI v v ≤ S → Big S u ∧ Big S v := fun u v h => by
    have nu := dotI_self_nonneg u
    have nv := dotI_self_nonneg v
    have := Int.mul_nonneg hS (show 0 ≤ 2 * S + 1 by lia)
    exact ⟨fun x hx => by have := entry_le hx; lia, fun x hx => by have := entry_le hx; lia⟩
  have st : ∀ (k : Nat) (u v : List Int), (∀ u v : List Int, u.length = v.length → dotI u u + dotI v v ≤ S → Big S (gaussI k u v).1 ∧ Big S (gaussI k u v).2) → u.length = v.length → dotI u u ≤ dotI v v → dotI u u + dotI v v ≤ S → Big S (gstep k u v).1 ∧ Big S (gstep k u v).2 := fun k u v ih hl hle h => by
    have nu := dotI_self_nonneg u
    have cs := @dotI_cs u v
    have hb : ((2 * dotI u v + dotI u u) / (2 * dotI u u)).natAbs ≤ (2 * dotI u v + dotI u u).natAbs := Int.natAbs_ediv_le_natAbs _ _
    unfold gstep
    generalize (2 * dotI u v + dotI u u) / (2 * dotI u u) = m at *
    split
    · exact base u v h
    split
    · exact base u v h
    split
    · refine ⟨(base u v h).1, fun z hz => ?_⟩
      obtain ⟨x, hx, y, hy, rfl⟩ := lessI_mem hz
      have b1 := entry_le hx
      have b2 := entry_le hy
      have b3 : ((y * m).natAbs : Int) ≤ S * (2 * S + 1) := by
        rw [Int.natAbs_mul, Int.natCast_mul]
        exact Int.mul_le_mul (by lia) (by lia) (by lia) hS
      (clear hle; omega)
    · exact ih u _ (by rw [lessI_len hl.symm]; exact hl) (by lia)
  intro n
  induction n with
  | zero => intro u v _ h; exact base u v h
  | succ k ih =>
    intro u v hl h
    by_cases c : dotI v v < dotI u u
    · rw [gaussI_gt c]; exact st k v u ih hl.symm (by lia) (by lia)
    · rw [gaussI_le c]; exact st k u v ih hl (by lia) h
noncomputable def detI (u v : List Int) : Int := dotI u u * dotI v v - dotI u v * dotI u v
theorem det_lin {u v : List Int} (a b c d : Int) (h : u.length = v.length) : detI (lin a b u v) (lin c d u v) = (a * d - b * c) * (a * d - b * c) * detI u v := by
  unfold detI
  rw [dotI_lin a b a b h, dotI_lin c d c d h, dotI_lin a b c d h]
  generalize dotI u u = U
  generalize dotI u v = V
  generalize dotI v v = X
  grind
/-- two numbers that are squares' multiples of one another -/
theorem sq_eq {x y k l : Int} (h1 : y = k * k * x) (h2 : x = l * l * y) : x = y := by
  by_cases hx : x = 0
  · subst hx; rw [h1]; simp
  · have e : (l * l * (k * k)) * x = 1 * x := by rw [Int.one_mul]; conv => rhs; rw [h2, h1]
                                                 grind
    have e2 : l * l * (k * k) = 1 := Int.eq_of_mul_eq_mul_right hx e
    have e3 : 0 ≤ k * k := sq_nonneg k
    have e4 : k * k = 1 := by
      have : k * k ∣ 1 := ⟨l * l, by rw [Int.mul_comm]; exact e2.symm⟩
      exact Int.eq_one_of_dvd_one e3 this
    rw [h1, e4, Int.one_mul]
theorem xy_ge (x y : Int) (h : x ≠ 0 ∨ y ≠ 0) : 1 ≤ x * x - (x.natAbs : Int) * y.natAbs + y * y := by
  have h1 : x * x = (x.natAbs : Int) * x.natAbs := (Int.natAbs_mul_self' x).symm
  have h2 : y * y = (y.natAbs : Int) * y.natAbs := (Int.natAbs_mul_self' y).symm
  rw [h1, h2]
  have hx : 0 ≤ (x.natAbs : Int) := by lia
  have hy : 0 ≤ (y.natAbs : Int) := by lia
  have hz : (x.natAbs : Int) ≠ 0 ∨ (y.natAbs : Int) ≠ 0 := by lia
  generalize (x.natAbs : Int) = X at *
  generalize (y.natAbs : Int) = Y at *
  have e1 : X * X - X * Y + Y * Y = (X - Y) * (X - Y) + X * Y := by grind
  rw [e1]
  have p1 := Int.mul_nonneg hx hy
  have p2 := sq_nonneg (X - Y)
  by_cases hxy : X = Y
  · subst hxy
    have : 1 ≤ X * X := by
      have := Int.mul_le_mul (show 1 ≤ X by lia) (show 1 ≤ X by lia) (by lia) (by (omega))
      (clear p1; lia)
    (clear p1; lia)
  · have := natAbs_le_sq (X - Y)
    lia
theorem red_ge {p q : List Int} (R : Red p q) (hl : p.length = q.length) (x y : Int) : ((x ≠ 0 ∨ y ≠ 0) → dotI p p ≤ dotI (lin x y p q) (lin x y p q)) ∧ (y ≠ 0 → dotI q q ≤ dotI (lin x y p q) (lin x y p q)) := by
  rw [dotI_lin x y x y hl]
  obtain ⟨h1, h2, h3⟩ := R
  have np := dotI_self_nonneg p
  generalize dotI p p = A at *
  generalize dotI q q = Cq at *
  generalize dotI p q = b at *
  have cross : -(A * ((x.natAbs : Int) * y.natAbs)) ≤ (x * y + y * x) * b := by
    have e : (x * y + y * x) * b = (2 * b) * (x * y) := by grind
    rw [e]
    have e2 : ((2 * b) * (x * y)).natAbs = (2 * b).natAbs * (x.natAbs * y.natAbs) := by rw [Int.natAbs_mul, Int.natAbs_mul x y]
    have e3 : ((2 * b).natAbs : Int) ≤ A := by lia
    have e4 : ((2 * b).natAbs : Int) * ((x.natAbs * y.natAbs : Nat) : Int) ≤ A * ((x.natAbs * y.natAbs : Nat) : Int) := Int.mul_le_mul_of_nonneg_right e3 (by lia)
    have e5 : ((((2 * b) * (x * y)).natAbs : Nat) : Int) ≤ A * ((x.natAbs * y.natAbs : Nat) : Int) := by rw [e2, Int.natCast_mul]; exact e4
    rw [Int.natCast_mul] at e5
    (clear e4 e2; omega)
  constructor
  · intro h
    by_cases hy : y = 0
    · subst hy
      have hx : x ≠ 0 := by lia
      have : 1 ≤ x * x := by have := natAbs_le_sq x; (clear h; lia)
      have : A * 1 ≤ A * (x * x) := Int.mul_le_mul_of_nonneg_left this np
      simp
      rw [Int.mul_comm]; lia
    · have e1 := xy_ge x y (.inr hy)
      have e2 : A * 1 ≤ A * (x * x - (x.natAbs : Int) * y.natAbs + y * y) := Int.mul_le_mul_of_nonneg_left e1 np
      have e3 : A * (y * y) ≤ Cq * (y * y) := Int.mul_le_mul_of_nonneg_right h1 (sq_nonneg y)
      have e4 : A * (x * x - (x.natAbs : Int) * y.natAbs + y * y) = x * x * A - A * ((x.natAbs : Int) * y.natAbs) + A * (y * y) := by grind
      have e5 : y * y * Cq = Cq * (y * y) := Int.mul_comm _ _
      lia
  · intro hy
    have e1 := xy_ge x y (.inr hy)
    have e2 : 0 ≤ A * (x * x - (x.natAbs : Int) * y.natAbs + y * y - 1) := Int.mul_nonneg np (by lia)
    have y1 : 1 ≤ y * y := by have := natAbs_le_sq y; lia
    have e3 : A * (y * y - 1) ≤ Cq * (y * y - 1) := Int.mul_le_mul_of_nonneg_right h1 (by lia)
    have e4 : A * (x * x - (x.natAbs : Int) * y.natAbs + y * y - 1) = x * x * A - A * ((x.natAbs : Int) * y.natAbs) + A * (y * y - 1) := by grind
    have e5 : y * y * Cq = Cq * (y * y - 1) + Cq := by grind
    lia
theorem red_zero {p q : List Int} (R : Red p q) (h : detI p q = 0) : dotI p p = 0 := by
  unfold detI at h
  obtain ⟨h1, h2, h3⟩ := R
  have np := dotI_self_nonneg p
  generalize dotI p p = A at *
  generalize dotI q q = Cq at *
  generalize dotI p q = b at *
  have e1 : A * A ≤ A * Cq := Int.mul_le_mul_of_nonneg_left h1 np
  have e2 : 0 ≤ (A - 2 * b) * (A + 2 * b) := Int.mul_nonneg (by lia) (by lia)
  have e3 : (A - 2 * b) * (A + 2 * b) = A * A - 4 * (b * b) := by grind
  have e4 := sq_nonneg b
  have e5 : A * A = 0 := by have := sq_nonneg A; omega
  rcases Int.mul_eq_zero.mp e5 with h | h <;> exact h
/-- two reduced pairs of one lattice have the same sizes -/
theorem same_sizes {p q r s : List Int} (L : Lat p q r s) (R1 : Red p q) (R2 : Red r s) : dotI p p = dotI r r ∧ dotI q q = dotI s s ∧ (dotI p q).natAbs = (dotI r s).natAbs := by
  obtain ⟨h1, h2, h3, a, b, c, d, e, f, g, k, e1, e2, e3, e4⟩ := L
  have hrs : r.length = s.length := by lia
  have d1 : detI r s = (a * d - b * c) * (a * d - b * c) * detI p q := by rw [e1, e2]; exact det_lin a b c d h1
  have d2 : detI p q = (e * k - f * g) * (e * k - f * g) * detI r s := by
    conv => lhs; rw [e3, e4]
    exact det_lin e f g k hrs
  have hd := sq_eq d1 d2
  by_cases hz : detI p q = 0
  · have z1 := red_zero R1 hz
    have z2 := red_zero R2 (by rw [← hd]; exact hz)
    have b1 := dot_zero q (zero_of z1)
    have b2 := dot_zero s (zero_of z2)
    have c1 : dotI s s = d * d * dotI q q := by
      have := dotI_lin c d c d h1
      rw [← e2, z1, b1] at this
      rw [this]; simp
    have c2 : dotI q q = k * k * dotI s s := by
      have := dotI_lin g k g k hrs
      rw [← e4, z2, b2] at this
      rw [this]; simp
    exact ⟨by rw [z1, z2], sq_eq c1 c2, by rw [b1, b2]⟩
  · have ab : a ≠ 0 ∨ b ≠ 0 := by
      by_cases ha : a = 0
      · by_cases hb : b = 0
        · subst ha hb; simp at d1; (clear hd; lia)
        · exact .inr hb
      · exact .inl ha
    have ef : e ≠ 0 ∨ f ≠ 0 := by
      by_cases ha : e = 0
      · by_cases hb : f = 0
        · subst ha hb; simp at d2; (clear hd; lia)
        · exact .inr hb
      · exact .inl ha
    have bd : b ≠ 0 ∨ d ≠ 0 := by
      by_cases ha : b = 0
      · by_cases hb : d = 0
        · subst ha hb; simp at d1; (clear hd; lia)
        · exact .inr hb
      · exact .inl ha
    have fk : f ≠ 0 ∨ k ≠ 0 := by
      by_cases ha : f = 0
      · by_cases hb : k = 0
        · subst ha hb; simp at d2; (clear hd; lia)
        · exact .inr hb
      · exact .inl ha
    have g1 := red_ge R1 h1 a b
    have g2 := red_ge R1 h1 c d
    have g3 := red_ge R2 hrs e f
    have g4 := red_ge R2 hrs g k
    rw [← e1] at g1
    rw [← e2] at g2
    rw [← e3] at g3
    rw [← e4] at g4
    have A1 := g1.1 ab
    have A2 := g3.1 ef
    have hA : dotI p p = dotI r r := by (clear g3 g1; lia)
    have C1 : dotI q q ≤ dotI s s := by
      rcases bd with h | h
      · have := g1.2 h; have := R2.1; (clear h; lia)
      · exact g2.2 h
    have C2 : dotI s s ≤ dotI q q := by
      rcases fk with h | h
      · have := g3.2 h; have := R1.1; (clear h g3 A2 hA; lia)
      · exact g4.2 h
    have hC : dotI q q = dotI s s := by lia
    refine ⟨hA, hC, ?_⟩
    have : dotI p q * dotI p q = dotI r s * dotI r s := by
      unfold detI at hd
      rw [hA, hC] at hd
      omega
    have e := congrArg Int.natAbs this
    rw [Int.natAbs_mul, Int.natAbs_mul] at e
    rcases Nat.lt_trichotomy (dotI p q).natAbs (dotI r s).natAbs with h | h | h
    · have := Nat.mul_self_lt_mul_self h; lia
    · exact h
    · have := Nat.mul_self_lt_mul_self h; lia
end Mine
end

section -- Pg
open PySem PySem.W PySem.Calls PyProof.Rows
set_option maxRecDepth 100000
namespace Mine

/-- the defs of the text, in its order -/
noncomputable def texts (p : Program) : List DefRec := p.main.body.filterMap fun st => match st with
  | .FunctionDef name a b _ _ _ sc _ _ pos => some ⟨name, a, b, sc, pos⟩
  | _ => none
/-- where the top lays them -/
noncomputable def adrs : List (Str × Addr) := [
  (Str.ofString "normal", 58),
  (Str.ofString "compare", 65),
  (Str.ofString "add", 72),
  (Str.ofString "sub", 79),
  (Str.ofString "add_limb", 86),
  (Str.ofString "divrem_limb", 93),
  (Str.ofString "shift_left", 100),
  (Str.ofString "shift_right", 107),
  (Str.ofString "bits", 114),
  (Str.ofString "low", 121),
  (Str.ofString "signed", 128),
  (Str.ofString "s_neg", 135),
  (Str.ofString "s_sign", 142),
  (Str.ofString "s_compare", 149),
  (Str.ofString "s_add", 156),
  (Str.ofString "s_sub", 163),
  (Str.ofString "s_mul", 170),
  (Str.ofString "tdiv", 177),
  (Str.ofString "fdiv", 184),
  (Str.ofString "s_shift", 191),
  (Str.ofString "dot", 200),
  (Str.ofString "row_less", 205),
  (Str.ofString "nearest_quotient", 212),
  (Str.ofString "gauss_pair", 219),
  (Str.ofString "mul_school", 226),
  (Str.ofString "divrem_small", 233),
  (Str.ofString "guessed_limb", 240),
  (Str.ofString "take_away", 247),
  (Str.ofString "put_back", 254),
  (Str.ofString "divide_rows", 261),
  (Str.ofString "divrem_school", 268),
  (Str.ofString "_law_dealt", 275),
  (Str.ofString "_law_limbs", 282),
  (Str.ofString "_law_plain", 287),
  (Str.ofString "_law_dot", 292),
  (Str.ofString "_law_turned", 297),
  (Str.ofString "_law_pair", 302),
  (Str.ofString "_law_sizes", 309),
  (Str.ofString "_law_is_shortest", 314),
  (Str.ofString "_law_is_multiple", 319),
  (Str.ofString "law", 324)]
noncomputable def bnames : List Str := [Str.ofString "len", Str.ofString "sum", Str.ofString "min", Str.ofString "abs", Str.ofString "repr", Str.ofString "range", Str.ofString "zip", Str.ofString "enumerate", Str.ofString "int"]
/-- a def as the top left it -/
inductive DefAt (g : Heap) (i : Nat) (n : Str) (a : Addr) : Prop where
  | mk (d : DefRec) (o : Obj) (pm code doc : Value) (ht : (texts PySem.Challenge.rw_sa0341_01.row.prog)[i]? = some d) (hn : d.name = n) (ho : g.get? a = some o) (hd : o.data = .func (docDef d.name d.params d.body d.scope pm code doc)) (hc : g.CodeRec code d.name)
theorem DefAt.fun_ {g : Heap} {i : Nat} {n : Str} {a : Addr} : DefAt g i n a → Fun g (.ref a)
  | ⟨_, _, _, _, _, _, _, ho, hd, _⟩ => .fn _ _ _ ho hd
/-- the module of the claim, as its top left it -/
structure Pg (G : Gl) : Prop where
  prog : G.prog = PySem.Challenge.rw_sa0341_01.row.prog
  gns : G.g.Ns mainGlobals G.mg
  bns : G.g.Ns builtinsNs G.mb
  lim : G.g.NoLimit
  blt : ∀ x : Str, x ≠ "__name__" → G.mb x = bootBuiltins x
  free : ∀ (i : Nat) x, bnames[i]? = some x → G.mg x = none
  at' : ∀ (i : Nat) n a, adrs[i]? = some (n, a) → G.mg n = some (.ref a) ∧ DefAt G.g i n a
  nought : G.mg (Str.ofString "NOUGHT") = some (.ref 193) ∧ IsT G.g 193 #[.bool false, .ref 192] 0 ∧ IsL G.g 192 #[] 0

section
variable {G : Gl} (P : Pg G)
include P
theorem Pg.mb {x : Str} {v : Value} (hn : x ≠ "__name__") (hv : bootBuiltins x = some v) : G.mb x = some v := (P.blt x hn).trans hv
theorem Pg.fun_ (i : Nat) {n : Str} {a : Addr} (h : adrs[i]? = some (n, a)) : Fun G.g (.ref a) := (P.at' i n a h).2.fun_
theorem g_normal : G.mg (Str.ofString "normal") = some (.ref 58) := (P.at' 0 _ _ rfl).1
theorem g_compare : G.mg (Str.ofString "compare") = some (.ref 65) := (P.at' 1 _ _ rfl).1
theorem g_add : G.mg (Str.ofString "add") = some (.ref 72) := (P.at' 2 _ _ rfl).1
theorem g_sub : G.mg (Str.ofString "sub") = some (.ref 79) := (P.at' 3 _ _ rfl).1
theorem g_add_limb : G.mg (Str.ofString "add_limb") = some (.ref 86) := (P.at' 4 _ _ rfl).1
theorem g_divrem_limb : G.mg (Str.ofString "divrem_limb") = some (.ref 93) := (P.at' 5 _ _ rfl).1
theorem g_shift_left : G.mg (Str.ofString "shift_left") = some (.ref 100) := (P.at' 6 _ _ rfl).1
theorem g_shift_right : G.mg (Str.ofString "shift_right") = some (.ref 107) := (P.at' 7 _ _ rfl).1
theorem g_bits : G.mg (Str.ofString "bits") = some (.ref 114) := (P.at' 8 _ _ rfl).1
theorem g_low : G.mg (Str.ofString "low") = some (.ref 121) := (P.at' 9 _ _ rfl).1
theorem g_signed : G.mg (Str.ofString "signed") = some (.ref 128) := (P.at' 10 _ _ rfl).1
theorem g_s_neg : G.mg (Str.ofString "s_neg") = some (.ref 135) := (P.at' 11 _ _ rfl).1
theorem g_s_sign : G.mg (Str.ofString "s_sign") = some (.ref 142) := (P.at' 12 _ _ rfl).1
theorem g_s_compare : G.mg (Str.ofString "s_compare") = some (.ref 149) := (P.at' 13 _ _ rfl).1
theorem g_s_add : G.mg (Str.ofString "s_add") = some (.ref 156) := (P.at' 14 _ _ rfl).1
theorem g_s_sub : G.mg (Str.ofString "s_sub") = some (.ref 163) := (P.at' 15 _ _ rfl).1
theorem g_s_mul : G.mg (Str.ofString "s_mul") = some (.ref 170) := (P.at' 16 _ _ rfl).1
theorem g_tdiv : G.mg (Str.ofString "tdiv") = some (.ref 177) := (P.at' 17 _ _ rfl).1
theorem g_fdiv : G.mg (Str.ofString "fdiv") = some (.ref 184) := (P.at' 18 _ _ rfl).1
theorem g_s_shift : G.mg (Str.ofString "s_shift") = some (.ref 191) := (P.at' 19 _ _ rfl).1
theorem g_dot : G.mg (Str.ofString "dot") = some (.ref 200) := (P.at' 20 _ _ rfl).1
theorem g_row_less : G.mg (Str.ofString "row_less") = some (.ref 205) := (P.at' 21 _ _ rfl).1
theorem g_nearest_quotient : G.mg (Str.ofString "nearest_quotient") = some (.ref 212) := (P.at' 22 _ _ rfl).1
theorem g_gauss_pair : G.mg (Str.ofString "gauss_pair") = some (.ref 219) := (P.at' 23 _ _ rfl).1
theorem g_mul_school : G.mg (Str.ofString "mul_school") = some (.ref 226) := (P.at' 24 _ _ rfl).1
theorem g_divrem_small : G.mg (Str.ofString "divrem_small") = some (.ref 233) := (P.at' 25 _ _ rfl).1
theorem g_guessed_limb : G.mg (Str.ofString "guessed_limb") = some (.ref 240) := (P.at' 26 _ _ rfl).1
theorem g_take_away : G.mg (Str.ofString "take_away") = some (.ref 247) := (P.at' 27 _ _ rfl).1
theorem g_put_back : G.mg (Str.ofString "put_back") = some (.ref 254) := (P.at' 28 _ _ rfl).1
theorem g_divide_rows : G.mg (Str.ofString "divide_rows") = some (.ref 261) := (P.at' 29 _ _ rfl).1
theorem g_divrem_school : G.mg (Str.ofString "divrem_school") = some (.ref 268) := (P.at' 30 _ _ rfl).1
theorem g_law_dealt : G.mg (Str.ofString "_law_dealt") = some (.ref 275) := (P.at' 31 _ _ rfl).1
theorem g_law_limbs : G.mg (Str.ofString "_law_limbs") = some (.ref 282) := (P.at' 32 _ _ rfl).1
theorem g_law_plain : G.mg (Str.ofString "_law_plain") = some (.ref 287) := (P.at' 33 _ _ rfl).1
theorem g_law_dot : G.mg (Str.ofString "_law_dot") = some (.ref 292) := (P.at' 34 _ _ rfl).1
theorem g_law_turned : G.mg (Str.ofString "_law_turned") = some (.ref 297) := (P.at' 35 _ _ rfl).1
theorem g_law_pair : G.mg (Str.ofString "_law_pair") = some (.ref 302) := (P.at' 36 _ _ rfl).1
theorem g_law_sizes : G.mg (Str.ofString "_law_sizes") = some (.ref 309) := (P.at' 37 _ _ rfl).1
theorem g_law_is_shortest : G.mg (Str.ofString "_law_is_shortest") = some (.ref 314) := (P.at' 38 _ _ rfl).1
theorem g_law_is_multiple : G.mg (Str.ofString "_law_is_multiple") = some (.ref 319) := (P.at' 39 _ _ rfl).1
theorem b_len : G.mg (Str.ofString "len") = none ∧ G.mb (Str.ofString "len") = some (.builtin "len") := ⟨P.free 0 _ rfl, P.mb (by decide) (by kernel_rfl)⟩
theorem b_sum : G.mg (Str.ofString "sum") = none ∧ G.mb (Str.ofString "sum") = some (.builtin "sum") := ⟨P.free 1 _ rfl, P.mb (by decide) (by kernel_rfl)⟩
theorem b_min : G.mg (Str.ofString "min") = none ∧ G.mb (Str.ofString "min") = some (.builtin "min") := ⟨P.free 2 _ rfl, P.mb (by decide) (by kernel_rfl)⟩
theorem b_abs : G.mg (Str.ofString "abs") = none ∧ G.mb (Str.ofString "abs") = some (.builtin "abs") := ⟨P.free 3 _ rfl, P.mb (by decide) (by kernel_rfl)⟩
theorem b_repr : G.mg (Str.ofString "repr") = none ∧ G.mb (Str.ofString "repr") = some (.builtin "repr") := ⟨P.free 4 _ rfl, P.mb (by decide) (by kernel_rfl)⟩
theorem b_range : G.mg (Str.ofString "range") = none ∧ G.mb (Str.ofString "range") = some (.type "range") := ⟨P.free 5 _ rfl, P.mb (by decide) (by kernel_rfl)⟩
theorem b_zip : G.mg (Str.ofString "zip") = none ∧ G.mb (Str.ofString "zip") = some (.type "zip") := ⟨P.free 6 _ rfl, P.mb (by decide) (by kernel_rfl)⟩
theorem b_enumerate : G.mg (Str.ofString "enumerate") = none ∧ G.mb (Str.ofString "enumerate") = some (.type "enumerate") := ⟨P.free 7 _ rfl, P.mb (by decide) (by kernel_rfl)⟩
theorem b_int : G.mg (Str.ofString "int") = none ∧ G.mb (Str.ofString "int") = some (.type "int") := ⟨P.free 8 _ rfl, P.mb (by decide) (by kernel_rfl)⟩
theorem g_nought : G.mg (Str.ofString "NOUGHT") = some (.ref 193) := P.nought.1
end
/-- a thing said of every list of so many values -/
noncomputable def AllL : Nat → (List Value → Prop) → Prop
  | 0, p => p []
  | n + 1, p => ∀ v, AllL n fun vs => p (v :: vs)
theorem AllL.of {n : Nat} {p : List Value → Prop} (h : AllL n p) (vs : List Value) (e : vs.length = n) : p vs := by
  subst e
  induction vs generalizing p with
  | nil => exact h
  | cons v vs ih => exact ih (h v)
theorem Fn.here {G : Gl} {lev : Nat} {f : Addr} {args : List V} {mu mu' : List (List D)} {ret : D} (P : Pg G) (i : Nat) {name : Str} {params : Arguments} {body : List Stmt} {sc : Scope} {pos : Pos} (ht : (texts PySem.Challenge.rw_sa0341_01.row.prog)[i]? = some ⟨name, params, body, sc, pos⟩) (ha : adrs[i]? = some (name, f)) (sh : List (Str × Bool)) (gn : List Str) (k : Nat) (ps : List Str)
    (hbind : ∀ pm code doc, AllL args.length fun vals => bindArgs (docDef name params body sc pm code doc) ⟨vals, []⟩ = pure (ps.zip vals)) (nd : (sc.names.map (·.1)).Nodup)
    (hps : (sh.map (·.1)).take args.length = ps) (psnd : ps.Nodup) (hmu : mu'.length = mu.length) (hargs : args.length = ps.length)
    (hsh : mkSh sc.names = sh) (hgn : ∀ y ∈ gn, sc.names.lookup y = some .globalImplicit) (hkk : sh.length - args.length = k) (hco : sc.isCoroutine = false) (hgen : sc.isGenerator = false) (hk : sc.kind = .function)
    (B : ∀ C, In G lev sh gn C → Exs C body ⟨args.map some ++ List.replicate k none, mu.map some⟩ (RetK ret mu')) : Fn G (lev + 1) f args mu ret mu' := by
  obtain ⟨_, d, o, pm, code, doc, h1, h2, h3, h4, h5⟩ := P.at' i name f ha
  rw [ht] at h1
  cases h1
  subst hps
  refine Fn.intro sh gn k _ o body _ h3 h4 rfl rfl rfl rfl h5 P.gns P.bns P.lim (fun vals hv => (hbind pm code doc).of vals (hv.trans hargs.symm)) nd (fun j x hj => ?_) psnd hargs hmu hsh hgn (by rw [← hargs]; exact hkk) hco hgen hk B
  show ∃ b, (mkSh sc.names)[j]? = some (x, b)
  rw [hsh]
  rw [List.getElem?_take] at hj
  split at hj
  · rw [List.getElem?_map, Option.map_eq_some_iff] at hj
    obtain ⟨⟨y, b⟩, hy, rfl⟩ := hj
    exact ⟨b, hy⟩
  · cases hj
/-- a list of ints -/
noncomputable abbrev Li (xs : List Int) : D := .list (xs.map .int)
noncomputable abbrev S (x : String) : Str := Str.ofString x

theorem U.sub {C : Cx} {σ : St} {K : V → St → Prop} {value slice : Expr} {o : V} {xs : List Int} {k : Int} (L : ListAt σ o (xs.map D.int)) (h0 : 0 ≤ k) (hk : k < xs.length) (hl : xs.length ≤ 1000000) (h : K (.d (.int (xs.getD k.toNat 0))) σ)
    (hs : ∀ a u, subscripted slice false (.ref a) (.int k u) = operate [.ref a, .int k u] (getItem (.ref a) (.int k u)) := by intro _ _; with_unfolding_all rfl) : SubK C value slice o (.d (.int k)) σ K := by
  have hlt : k.toNat < xs.length := by lia
  exact SubK.list L h0 (by lia) (x := .int (xs.getD k.toNat 0)) (by rw [List.getElem?_map, List.getElem?_eq_getElem hlt, List.getD_eq_getElem?_getD, List.getElem?_eq_getElem hlt]; rfl) h hs

/-- a loop by what holds between its turns -/
theorem ForK.inv {C : Cx} {i : Nat} {body : List Stmt} {K : Fl → St → Prop} (items : List D) (J : Nat → St → Prop) {σ : St} (h0 : J 0 σ)
    (step : ∀ k x σ, items[k]? = some x → J k σ → Exs C body (σ.setl i (.d x)) (loopK K (J (k + 1)))) (fin : ∀ σ, J items.length σ → K .next σ) : ForK C i body K items σ := by
  have go : ∀ (r : List D) (k : Nat) (σ : St), k ≤ items.length → items.drop k = r → J k σ → ForK C i body K r σ := by
    intro r
    induction r with
    | nil =>
      intro k σ hk hd hJ
      have hlen := congrArg List.length hd
      simp at hlen
      have : k = items.length := by lia
      subst this
      exact fin σ hJ
    | cons x r ih =>
      intro k σ hk hd hJ
      have hx : items[k]? = some x := by
        have := congrArg (·[0]?) hd
        simpa using this
      have hlt := (List.getElem?_eq_some_iff.mp hx).1
      refine (step k x σ hx hJ).mono fun f σ' hf => ?_
      cases f with
      | next => exact ih (k + 1) σ' hlt (by rw [← List.tail_drop, hd]; rfl) hf
      | cont => exact ih (k + 1) σ' hlt (by rw [← List.tail_drop, hd]; rfl) hf
      | brk => exact hf
      | ret v => exact hf
  exact go items 0 σ (Nat.zero_le _) (by simp) h0
theorem ForK2.inv {C : Cx} {is : List Nat} {body : List Stmt} {K : Fl → St → Prop} (items : List (D × D)) (J : Nat → St → Prop) {σ : St} (h0 : J 0 σ)
    (step : ∀ k x y σ, items[k]? = some (x, y) → J k σ → Exs C body (σ.setls is [.d x, .d y]) (loopK K (J (k + 1)))) (fin : ∀ σ, J items.length σ → K .next σ) : ForK2 C is body K items σ := by
  have go : ∀ (r : List (D × D)) (k : Nat) (σ : St), k ≤ items.length → items.drop k = r → J k σ → ForK2 C is body K r σ := by
    intro r
    induction r with
    | nil =>
      intro k σ hk hd hJ
      have hlen := congrArg List.length hd
      simp at hlen
      have : k = items.length := by lia
      subst this
      exact fin σ hJ
    | cons p r ih =>
      intro k σ hk hd hJ
      obtain ⟨x, y⟩ := p
      have hx : items[k]? = some (x, y) := by
        have := congrArg (·[0]?) hd
        simpa using this
      have hlt := (List.getElem?_eq_some_iff.mp hx).1
      refine (step k x y σ hx hJ).mono fun f σ' hf => ?_
      cases f with
      | next => exact ih (k + 1) σ' hlt (by rw [← List.tail_drop, hd]; rfl) hf
      | cont => exact ih (k + 1) σ' hlt (by rw [← List.tail_drop, hd]; rfl) hf
      | brk => exact hf
      | ret v => exact hf
  exact go items 0 σ (Nat.zero_le _) (by simp) h0
theorem range_at {a c : Int} {n k : Nat} {x : D} (h : (rangeD a c n)[k]? = some x) : k < n ∧ x = .int (a + k * c) := by
  unfold rangeD at h
  rw [List.getElem?_map] at h
  rcases Nat.lt_or_ge k n with q | q
  · rw [List.getElem?_range q] at h
    simp at h
    exact ⟨q, h.symm⟩
  · rw [List.getElem?_eq_none (by simpa using q)] at h; cases h
theorem range_len (a c : Int) (n : Nat) : (rangeD a c n).length = n := by simp [rangeD]
theorem U.put_li {σ : St} {k : Nat} {xs : List Int} {x : Int} : (σ.put k (xs.map D.int ++ [D.int x])) = σ.put k ((xs ++ [x]).map D.int) := by simp
end Mine
end

section -- Pg2
open PySem PySem.W PySem.Calls PyProof.Rows
set_option maxRecDepth 100000
namespace Mine
section
variable {G : Gl} (P : Pg G)
include P
theorem f_normal : Fun G.g (.ref 58) := P.fun_ 0 rfl
theorem f_compare : Fun G.g (.ref 65) := P.fun_ 1 rfl
theorem f_add : Fun G.g (.ref 72) := P.fun_ 2 rfl
theorem f_sub : Fun G.g (.ref 79) := P.fun_ 3 rfl
theorem f_add_limb : Fun G.g (.ref 86) := P.fun_ 4 rfl
theorem f_divrem_limb : Fun G.g (.ref 93) := P.fun_ 5 rfl
theorem f_shift_left : Fun G.g (.ref 100) := P.fun_ 6 rfl
theorem f_shift_right : Fun G.g (.ref 107) := P.fun_ 7 rfl
theorem f_bits : Fun G.g (.ref 114) := P.fun_ 8 rfl
theorem f_low : Fun G.g (.ref 121) := P.fun_ 9 rfl
theorem f_signed : Fun G.g (.ref 128) := P.fun_ 10 rfl
theorem f_s_neg : Fun G.g (.ref 135) := P.fun_ 11 rfl
theorem f_s_sign : Fun G.g (.ref 142) := P.fun_ 12 rfl
theorem f_s_compare : Fun G.g (.ref 149) := P.fun_ 13 rfl
theorem f_s_add : Fun G.g (.ref 156) := P.fun_ 14 rfl
theorem f_s_sub : Fun G.g (.ref 163) := P.fun_ 15 rfl
theorem f_s_mul : Fun G.g (.ref 170) := P.fun_ 16 rfl
theorem f_tdiv : Fun G.g (.ref 177) := P.fun_ 17 rfl
theorem f_fdiv : Fun G.g (.ref 184) := P.fun_ 18 rfl
theorem f_s_shift : Fun G.g (.ref 191) := P.fun_ 19 rfl
theorem f_dot : Fun G.g (.ref 200) := P.fun_ 20 rfl
theorem f_row_less : Fun G.g (.ref 205) := P.fun_ 21 rfl
theorem f_nearest_quotient : Fun G.g (.ref 212) := P.fun_ 22 rfl
theorem f_gauss_pair : Fun G.g (.ref 219) := P.fun_ 23 rfl
theorem f_mul_school : Fun G.g (.ref 226) := P.fun_ 24 rfl
theorem f_divrem_small : Fun G.g (.ref 233) := P.fun_ 25 rfl
theorem f_guessed_limb : Fun G.g (.ref 240) := P.fun_ 26 rfl
theorem f_take_away : Fun G.g (.ref 247) := P.fun_ 27 rfl
theorem f_put_back : Fun G.g (.ref 254) := P.fun_ 28 rfl
theorem f_divide_rows : Fun G.g (.ref 261) := P.fun_ 29 rfl
theorem f_divrem_school : Fun G.g (.ref 268) := P.fun_ 30 rfl
theorem f_law_dealt : Fun G.g (.ref 275) := P.fun_ 31 rfl
theorem f_law_limbs : Fun G.g (.ref 282) := P.fun_ 32 rfl
theorem f_law_plain : Fun G.g (.ref 287) := P.fun_ 33 rfl
theorem f_law_dot : Fun G.g (.ref 292) := P.fun_ 34 rfl
theorem f_law_turned : Fun G.g (.ref 297) := P.fun_ 35 rfl
theorem f_law_pair : Fun G.g (.ref 302) := P.fun_ 36 rfl
theorem f_law_sizes : Fun G.g (.ref 309) := P.fun_ 37 rfl
theorem f_law_is_shortest : Fun G.g (.ref 314) := P.fun_ 38 rfl
theorem f_law_is_multiple : Fun G.g (.ref 319) := P.fun_ 39 rfl
theorem f_law : Fun G.g (.ref 324) := P.fun_ 40 rfl
end
section
variable {C : Cx} {σ : St} {K : V → St → Prop}
theorem CallK.lenLi {xs : List Int} (h : K (.d (.int xs.length)) σ) (hl : xs.length ≤ 1000000) : CallK C (.builtin "len") [.d (Li xs)] σ K := CallK.len (l := xs.map .int) .d (by simp; (omega)) (by simpa using h)
end
theorem both_dec {p A B : Prop} [Decidable p] (h1 : p → A) (h2 : ¬ p → B) : (decide p = true → A) ∧ (decide p = false → B) := ⟨fun h => h1 (of_decide_eq_true h), fun h => h2 (of_decide_eq_false h)⟩
theorem both_eq {A B : Prop} {i j : Int} (h1 : i = j → A) (h2 : i ≠ j → B) : ((i == j) = true → A) ∧ ((i == j) = false → B) := ⟨fun h => h1 (by simpa using h), fun h => h2 (by simpa using h)⟩
theorem both_ne {A B : Prop} {i j : Int} (h1 : i ≠ j → A) (h2 : i = j → B) : ((i != j) = true → A) ∧ ((i != j) = false → B) := ⟨fun h => h1 (by simpa using h), fun h => h2 (by simpa using h)⟩
theorem both_not {b : Bool} {A B : Prop} (h : (b = false → A) ∧ (b = true → B)) : ((!b) = true → A) ∧ ((!b) = false → B) := ⟨fun e => h.1 (by simpa using e), fun e => h.2 (by simpa using e)⟩
theorem both_tt {A B : Prop} (h : A) : (true = true → A) ∧ (true = false → B) := ⟨fun _ => h, fun e => by cases e⟩
theorem both_ff {A B : Prop} (h : B) : (false = true → A) ∧ (false = false → B) := ⟨fun e => (by cases e), fun _ => h⟩
namespace U
section
variable {G : Gl} {n : Nat} {sh : List (Str × Bool)} {gn : List Str} {C : Cx} {σ : St}
theorem range1 {K : List D → St → Prop} {e : Expr} {p pos : Pos} (H : In G n sh gn C) (hk : Mem gn (Str.ofString "range")) (hm : G.mg (Str.ofString "range") = none ∧ G.mb (Str.ofString "range") = some (.type "range"))
    (h : EvA C pos [e] σ fun vs σ2 => ∃ n', vs = [.d (.int n')] ∧ n' ≤ 1000000 ∧ -1000000 ≤ n' ∧ K (rangeD 0 1 n'.toNat) σ2)
    (hst : starEach [e] C.env = (false, eval e C.env) :: starEach [] C.env := by rfl)
    (he : eval (.Call (.Name (Str.ofString "range") p) [e] [] pos) C.env = (do callWith pos (← eval (.Name (Str.ofString "range") p) C.env) [] (backTo pos (starEach [e] C.env)) []) := by rfl) : EvI C (.Call (.Name (Str.ofString "range") p) [e] [] pos) σ K :=
  EvI.range1 H.ok (U.bui H hk hm ⟨rfl, h⟩) hst he
theorem range2 {K : List D → St → Prop} {e e' : Expr} {p pos : Pos} (H : In G n sh gn C) (hk : Mem gn (Str.ofString "range")) (hm : G.mg (Str.ofString "range") = none ∧ G.mb (Str.ofString "range") = some (.type "range"))
    (h : EvA C pos [e, e'] σ fun vs σ2 => ∃ a n', vs = [.d (.int a), .d (.int n')] ∧ n' ≤ 1000000 ∧ -1000000 ≤ n' ∧ a ≤ 1000000 ∧ -1000000 ≤ a ∧ K (rangeD a 1 (n' - a).toNat) σ2)
    (hst : starEach [e, e'] C.env = (false, eval e C.env) :: starEach [e'] C.env := by rfl) (hplain : (backTo pos (starEach [e'] C.env)).any (·.1) = false := by rfl)
    (he : eval (.Call (.Name (Str.ofString "range") p) [e, e'] [] pos) C.env = (do callWith pos (← eval (.Name (Str.ofString "range") p) C.env) [] (backTo pos (starEach [e, e'] C.env)) []) := by rfl) : EvI C (.Call (.Name (Str.ofString "range") p) [e, e'] [] pos) σ K :=
  EvI.range2 H.ok (U.bui H hk hm ⟨rfl, h⟩) hst hplain he
theorem rangeDown {K : List D → St → Prop} {e e' e'' : Expr} {p pos : Pos} (H : In G n sh gn C) (hk : Mem gn (Str.ofString "range")) (hm : G.mg (Str.ofString "range") = none ∧ G.mb (Str.ofString "range") = some (.type "range"))
    (h : EvA C pos [e, e', e''] σ fun vs σ2 => ∃ a, vs = [.d (.int a), .d (.int (-1)), .d (.int (-1))] ∧ a ≤ 1000000 ∧ -1 ≤ a ∧ K (rangeD a (-1) (a + 1).toNat) σ2)
    (hst : starEach [e, e', e''] C.env = (false, eval e C.env) :: starEach [e', e''] C.env := by rfl) (hplain : (backTo pos (starEach [e', e''] C.env)).any (·.1) = false := by rfl)
    (he : eval (.Call (.Name (Str.ofString "range") p) [e, e', e''] [] pos) C.env = (do callWith pos (← eval (.Name (Str.ofString "range") p) C.env) [] (backTo pos (starEach [e, e', e''] C.env)) []) := by rfl) : EvI C (.Call (.Name (Str.ofString "range") p) [e, e', e''] [] pos) σ K :=
  EvI.rangeDown H.ok (U.bui H hk hm ⟨rfl, h⟩) hst hplain he
theorem zip {K : List (D × D) → St → Prop} {e e' : Expr} {p pos : Pos} (H : In G n sh gn C) (hk : Mem gn (Str.ofString "zip")) (hm : G.mg (Str.ofString "zip") = none ∧ G.mb (Str.ofString "zip") = some (.type "zip"))
    (h : EvA C pos [e, e'] σ fun vs σ2 => ∃ xs ys, vs = [.d (.list xs), .d (.list ys)] ∧ K (xs.zip ys) σ2)
    (hst : starEach [e, e'] C.env = (false, eval e C.env) :: starEach [e'] C.env := by rfl) (hplain : (backTo pos (starEach [e'] C.env)).any (·.1) = false := by rfl)
    (he : eval (.Call (.Name (Str.ofString "zip") p) [e, e'] [] pos) C.env = (do callWith pos (← eval (.Name (Str.ofString "zip") p) C.env) [] (backTo pos (starEach [e, e'] C.env)) []) := by rfl) : EvI2 C (.Call (.Name (Str.ofString "zip") p) [e, e'] [] pos) σ K :=
  EvI2.zip H.ok (U.bui H hk hm ⟨rfl, h⟩) hst hplain he
theorem enum {K : List (D × D) → St → Prop} {e : Expr} {p pos : Pos} (H : In G n sh gn C) (hk : Mem gn (Str.ofString "enumerate")) (hm : G.mg (Str.ofString "enumerate") = none ∧ G.mb (Str.ofString "enumerate") = some (.type "enumerate"))
    (h : EvA C pos [e] σ fun vs σ2 => ∃ xs, vs = [.d (.list xs)] ∧ K (xs.zipIdx.map fun p => (D.int (p.2 : Nat), p.1)) σ2)
    (hst : starEach [e] C.env = (false, eval e C.env) :: starEach [] C.env := by rfl)
    (he : eval (.Call (.Name (Str.ofString "enumerate") p) [e] [] pos) C.env = (do callWith pos (← eval (.Name (Str.ofString "enumerate") p) C.env) [] (backTo pos (starEach [e] C.env)) []) := by rfl) : EvI2 C (.Call (.Name (Str.ofString "enumerate") p) [e] [] pos) σ K :=
  EvI2.enum H.ok (U.bui H hk hm ⟨rfl, h⟩) hst he
end
end U
section
variable {C : Cx} {σ : St} {K : V → St → Prop} {i : Int} {W : Nat}
theorem BinK.shl1 (hb : W ≤ 1000) (h : K (.d (.int (2 ^ W))) σ) : BinK C .LShift (.d (.int 1)) (.d (.int W)) σ K := BinK.shl (by lia) (by lia) (by decide) (by rw [Int.toNat_natCast, Int.one_mul]; exact h)
theorem BinK.shlW (hb : W ≤ 1000) (hi : i.natAbs < 2 ^ 64) (h : K (.d (.int (i * 2 ^ W))) σ) : BinK C .LShift (.d (.int i)) (.d (.int W)) σ K := BinK.shl (by lia) (by lia) hi (by rw [Int.toNat_natCast]; exact h)
theorem BinK.shrW (h : K (.d (.int (i / 2 ^ W))) σ) : BinK C .RShift (.d (.int i)) (.d (.int W)) σ K := BinK.shr (by lia) (by rw [Int.toNat_natCast]; exact h)
theorem AugK.shrW (h : K (.d (.int (i / 2 ^ W))) σ) : AugK C .RShift (.d (.int i)) (.d (.int W)) σ K := AugK.shr (by lia) (by rw [Int.toNat_natCast]; exact h)
theorem BinK.mask (h : K (.d (.int (i % 2 ^ W))) σ) : BinK C .BitAnd (.d (.int i)) (.d (.int (2 ^ W - 1))) σ K := BinK.and (by rw [and_mask]; exact h)
theorem EvF.nil {K : List D → St → Prop} {pos : Pos} (h : K [] σ) : EvF C (.List [] pos) σ K := EvF.list (EvA.nil ⟨[], rfl, by simp, h⟩)
theorem U.retfrz {G : Gl} {n k : Nat} {sh : List (Str × Bool)} {gn : List Str} {K : Fl → St → Prop} {x : Str} {pos p : Pos} {j : Nat} {b : Bool} {l : List D} (H : In G n sh gn C) (hx : At sh j x b) (hv : σ.loc[j]? = some (some (.mu k))) (hk : σ.mu[k]? = some (some l)) (h : K (.ret (.d (.list l))) (σ.frz k)) (hd : (x == ("__debug__" : Str)) = false := by decide) : Ex C (.Return (some (.Name x pos)) p) σ K :=
  Ex.ret (U.frz H hx hv hk h hd)
theorem U.app {G : Gl} {n k : Nat} {sh : List (Str × Bool)} {gn : List Str} {K : Fl → St → Prop} {x : Str} {px : Pos} {j : Nat} {b : Bool} {xs : List Int} {e : Expr} {apos pos pos' : Pos} {pl : Sem Bool} (H : In G n sh gn C) (hx : At sh j x b) (hv : σ.loc[j]? = some (some (.mu k))) (hk : σ.mu[k]? = some (some (xs.map D.int)))
    (h : Ev C e σ fun v σ2 => ∃ x, v = .d (.int x) ∧ σ2.mu[k]? = some (some (xs.map D.int)) ∧ xs.length ≤ 1000000 ∧ K .next (σ2.put k ((xs ++ [x]).map D.int)))
    (hd : (x == ("__debug__" : Str)) = false := by decide)
    (he : eval (.Call (.Attribute (.Name x px) (Str.ofString "append") apos) [e] [] pos) C.env = (do
      let ov ← eval (.Name x px) C.env
      standAt apos.atName
      let (f, first) ← holding [ov] (getMethod ov (Str.ofString "append") pl)
      callWith pos f first (backTo pos (starEach [e] C.env)) []) := by rfl)
    (hst : starEach [e] C.env = (false, eval e C.env) :: starEach [] C.env := by rfl)
    (hsw : swapsWith (.Call (.Attribute (.Name x px) (Str.ofString "append") apos) [e] [] pos) none pos'.line C.env = pure false := by rfl) :
    Ex C (.Expr (.Call (.Attribute (.Name x px) (Str.ofString "append") apos) [e] [] pos) pos') σ K :=
  U.append (k := k) (pl := pl) H (U.loc H hx hv ⟨rfl, ⟨_, hk⟩, h.mono fun v σ2 ⟨x, e1, e2, e3, e4⟩ => ⟨_, _, e1, e2, by simpa using e3, by rw [U.put_li]; exact e4⟩⟩ hd) he hst hsw
end
/-- a statement by what holds behind it -/
theorem Exs.mid {C : Cx} {σ : St} {K : Fl → St → Prop} {st : Stmt} {rest : List Stmt} (Q : St → Prop) (h : Ex C st σ fun f σ' => f = .next ∧ Q σ') (h2 : ∀ σ', Q σ' → Exs C rest σ' K) : Exs C (st :: rest) σ K :=
  Exs.cons (WP.mono h fun f σ' hq => by
    obtain ⟨rfl, hq⟩ := hq
    exact h2 σ' hq)
/-- a loop over a range -/
theorem ForK.rng {C : Cx} {i : Nat} {body : List Stmt} {K : Fl → St → Prop} {a c : Int} {m : Nat} (J : Nat → St → Prop) {σ : St} (h0 : J 0 σ)
    (step : ∀ k σ, k < m → J k σ → Exs C body (σ.setl i (.d (.int (a + k * c)))) (loopK K (J (k + 1)))) (fin : ∀ σ, J m σ → K .next σ) : ForK C i body K (rangeD a c m) σ :=
  ForK.inv _ J h0 (fun k x σ hx hJ => by
    obtain ⟨h1, rfl⟩ := range_at hx
    exact step k σ h1 hJ) (by rw [range_len]; exact fin)
/-- a loop over a list of ints -/
theorem ForK.ints {C : Cx} {i : Nat} {body : List Stmt} {K : Fl → St → Prop} {xs : List Int} (J : Nat → St → Prop) {σ : St} (h0 : J 0 σ)
    (step : ∀ k σ, k < xs.length → J k σ → Exs C body (σ.setl i (.d (.int (xs.getD k 0)))) (loopK K (J (k + 1)))) (fin : ∀ σ, J xs.length σ → K .next σ) : ForK C i body K (xs.map D.int) σ :=
  ForK.inv _ J h0 (fun k x σ hx hJ => by
    rw [List.getElem?_map] at hx
    rcases Nat.lt_or_ge k xs.length with q | q
    · rw [List.getElem?_eq_getElem q] at hx
      cases hx
      have := step k σ q hJ
      rwa [List.getD_eq_getElem?_getD, List.getElem?_eq_getElem q] at this
    · rw [List.getElem?_eq_none q] at hx; cases hx) (by rw [List.length_map]; exact fin)
/-- a loop over a list of ints with its places -/
theorem ForK2.ints {C : Cx} {is : List Nat} {body : List Stmt} {K : Fl → St → Prop} {xs : List Int} (J : Nat → St → Prop) {σ : St} (h0 : J 0 σ)
    (step : ∀ k σ, k < xs.length → J k σ → Exs C body (σ.setls is [.d (.int k), .d (.int (xs.getD k 0))]) (loopK K (J (k + 1)))) (fin : ∀ σ, J xs.length σ → K .next σ) :
    ForK2 C is body K ((xs.map D.int).zipIdx.map fun p => (D.int (p.2 : Nat), p.1)) σ :=
  ForK2.inv _ J h0 (fun k x y σ hx hJ => by
    rcases Nat.lt_or_ge k xs.length with q | q
    · simp [q] at hx
      obtain ⟨rfl, rfl⟩ := hx
      have := step k σ q hJ
      rwa [List.getD_eq_getElem?_getD, List.getElem?_eq_getElem q] at this
    · simp [q] at hx) (by simpa using fin)
theorem cutD_map {xs : List Int} {lo hi : Option Int} : cutD (xs.map D.int) lo hi = ((xs.drop (lo.elim 0 (clipAt xs.length))).take (hi.elim xs.length (clipAt xs.length) - lo.elim 0 (clipAt xs.length))).map D.int := by
  simp [cutD, List.map_take, List.map_drop]
theorem clip_in {n k : Nat} (h : k ≤ n) : clipAt n (k : Int) = k := by unfold clipAt; rw [if_neg (by lia)]; (omega)
theorem cutD_to {xs : List Int} {n : Nat} (h : n ≤ xs.length) : cutD (xs.map D.int) none (some (n : Int)) = (xs.take n).map D.int := by
  rw [cutD_map]; simp [clip_in h]
theorem cutD_all {xs : List D} : cutD xs none none = xs := by simp [cutD]
theorem cutD_mid {xs : List Int} {n m : Nat} (h : n ≤ m) (h2 : m ≤ xs.length) : cutD (xs.map D.int) (some (n : Int)) (some (m : Int)) = ((xs.drop n).take (m - n)).map D.int := by
  rw [cutD_map]; simp [clip_in h2, clip_in (Nat.le_trans h h2)]
end Mine
end

section -- Pg3
open PySem PySem.W PySem.Calls PyProof.Rows
set_option maxRecDepth 100000
namespace Mine
section
variable {C : Cx} {σ : St} {i : Int} {W : Nat}
theorem BinK.orlow {K : V → St → Prop} {b x : Int} (h0 : 0 ≤ x) (h1 : x < 2 ^ W) (h : K (.d (.int (b * 2 ^ W + x))) σ) : BinK C .BitOr (.d (.int (b * 2 ^ W))) (.d (.int x)) σ K := BinK.or (by rw [or_low h0 h1]; exact h)
theorem BinK.orlow' {K : V → St → Prop} {b x : Int} (h0 : 0 ≤ x) (h1 : x < 2 ^ W) (h : K (.d (.int (x + b * 2 ^ W))) σ) : BinK C .BitOr (.d (.int x)) (.d (.int (b * 2 ^ W))) σ K := BinK.or (by rw [or_low' h0 h1]; exact h)
theorem AugK.orlow' {K : V → St → Prop} {b x : Int} (h0 : 0 ≤ x) (h1 : x < 2 ^ W) (h : K (.d (.int (x + b * 2 ^ W))) σ) : AugK C .BitOr (.d (.int x)) (.d (.int (b * 2 ^ W))) σ K := AugK.or (by rw [or_low' h0 h1]; exact h)
/-- [0] * n -/
theorem EvF.zeros {K : List D → St → Prop} {r : Expr} {k : Nat} {p1 p2 pos : Pos} (h : Ev C r σ fun b σ2 => ∃ n : Nat, b = .d (.int n) ∧ n ≤ 1000000 ∧ K ((List.replicate n (0 : Int)).map D.int) σ2) : EvF C (.BinOp (.List [.Constant (.int 0) k p1] p2) .Mult r pos) σ K :=
  EvF.rep (Ev.frozen (EvF.list (EvA.cons (Ev.cint (EvA.nil ⟨[.int 0], rfl, by decide, h.mono fun b σ2 ⟨n, e1, e2, e3⟩ => ⟨.int 0, n, .d, e1, by lia, by lia, by rw [Int.toNat_natCast]; simpa using e3⟩⟩)) (by rfl))))
theorem Ev.zeros {K : V → St → Prop} {r : Expr} {k : Nat} {p1 p2 pos : Pos} (h : Ev C r σ fun b σ2 => ∃ n : Nat, b = .d (.int n) ∧ n ≤ 1000000 ∧ K (.mu σ2.mu.length) (σ2.new ((List.replicate n (0 : Int)).map D.int))) : Ev C (.BinOp (.List [.Constant (.int 0) k p1] p2) .Mult r pos) σ K :=
  Ev.fresh (EvF.zeros h)
theorem U.setI {G : Gl} {n k : Nat} {sh : List (Str × Bool)} {gn : List Str} {K : Fl → St → Prop} {x : Str} {px p' pos : Pos} {j : Nat} {b : Bool} {xs : List Int} {ie e : Expr} (H : In G n sh gn C) (hx : At sh j x b) (hv : σ.loc[j]? = some (some (.mu k))) (hk : σ.mu[k]? = some (some (xs.map D.int)))
    (h : Ev C e σ fun v σ1 => ∃ y, v = .d (.int y) ∧ σ1.loc[j]? = some (some (.mu k)) ∧ Ev C ie σ1 fun iv σ2 => ∃ m : Nat, iv = .d (.int m) ∧ m < xs.length ∧ xs.length ≤ 1000000 ∧ σ2.mu[k]? = some (some (xs.map D.int)) ∧ K .next (σ2.put k ((xs.set m y).map D.int)))
    (hd : (x == ("__debug__" : Str)) = false := by decide)
    (hs : swapsWith e (some (.Subscript (.Name x px) ie p')) pos.line C.env = pure false := by rfl) : Ex C (.Assign [.Subscript (.Name x px) ie p'] e pos) σ K :=
  Ex.setitem (h.mono fun v σ1 ⟨y, e1, e2, e3⟩ => U.loc H hx e2 (e3.mono fun iv σ2 ⟨m, f1, f2, f3, f4, f5⟩ => by
    subst e1 f1
    exact SetK.mu f4 (by lia) (by lia) (by simpa using f2) (by rw [Int.toNat_natCast, ← List.map_set]; exact f5)) hd) hs
theorem Ev.mid {e : Expr} {K : V → St → Prop} (Q : V → St → Prop) (h : Ev C e σ Q) (h2 : ∀ v σ', Q v σ' → K v σ') : Ev C e σ K := WP.mono h h2
theorem EvB.mid {e : Expr} {K : Bool → St → Prop} (Q : Bool → St → Prop) (h : EvB C e σ Q) (h2 : ∀ v σ', Q v σ' → K v σ') : EvB C e σ K := WP.mono h h2
end
theorem val_take' {B : Int} {xs : List Int} {k : Nat} : val B (xs.take (k + 1)) = val B (xs.take k) + B ^ k * xs.getD k 0 := by
  rcases Nat.lt_or_ge k xs.length with q | q
  · exact val_take q
  · rw [List.take_of_length_le (by lia), List.take_of_length_le q, List.getD_eq_getElem?_getD, List.getElem?_eq_none q]; simp
theorem Lm.get' {B : Int} (hB : 0 < B) {xs : List Int} (h : Lm B xs) (k : Nat) : 0 ≤ xs.getD k 0 ∧ xs.getD k 0 < B := by
  rcases Nat.lt_or_ge k xs.length with q | q
  · exact h.get q
  · rw [List.getD_eq_getElem?_getD, List.getElem?_eq_none q]; simp; (omega)
theorem val_drop' {B : Int} {xs : List Int} {k : Nat} : val B (xs.drop k) = xs.getD k 0 + B * val B (xs.drop (k + 1)) := by
  rcases Nat.lt_or_ge k xs.length with q | q
  · exact val_drop q
  · rw [List.drop_of_length_le q, List.drop_of_length_le (by lia), List.getD_eq_getElem?_getD, List.getElem?_eq_none q]; simp [val]
theorem drop_set {xs : List Int} {k : Nat} (hk : k < xs.length) (x : Int) : (xs.set k x).drop k = x :: xs.drop (k + 1) := by
  rw [List.drop_eq_getElem_cons (by simpa using hk), List.getElem_set_self, List.drop_set_of_lt (by lia)]
end Mine
end

section -- Pg4
open PySem PySem.W PySem.Calls PyProof.Rows
set_option maxRecDepth 100000
namespace Mine
section
variable {C : Cx} {σ : St}
theorem Ev.bitlen {K : V → St → Prop} {o : Expr} {apos pos : Pos} {pl : Sem Bool} (h : Ev C o σ fun v σ1 => ∃ i, v = .d (.int i) ∧ K (.d (.int (Builtin.Int.intBits i))) σ1)
    (he : eval (.Call (.Attribute o (Str.ofString "bit_length") apos) [] [] pos) C.env = (do
      let ov ← eval o C.env
      standAt apos.atName
      let (f, first) ← holding [ov] (getMethod ov (Str.ofString "bit_length") pl)
      callWith pos f first (backTo pos (starEach [] C.env)) []) := by rfl) : Ev C (.Call (.Attribute o (Str.ofString "bit_length") apos) [] [] pos) σ K := fun hp tk ρ E R => by
  refine MethodCall_ (mono' (h hp tk ρ E R) ?_) he
  refine Post.elim fun o' h1 tk1 ρ1 o σ1 kk0 S1 r1 => ?_
  obtain ⟨i, rfl, k1⟩ := kk0
  obtain ⟨t, rfl⟩ := repI r1
  refine getMethod_int_bit_length ?_
  refine callWith_method0 ?_
  exact call_int_bit_length ⟨_, _, _, _, _, rfl, k1, S1, ⟨_, rfl⟩⟩
theorem Ex.expr {K : Fl → St → Prop} {e : Expr} {pos : Pos} (h : Ev C e σ fun _ σ1 => K .next σ1) (hi : interactive C.env = false)
    (hs : swapsWith e none pos.line C.env = pure false := by rfl) : Ex C (.Expr e pos) σ K := fun hp tk ρ E R => by
  refine wpAny_Expr_any (mono' (h hp tk ρ E R) ?_) hi hs
  refine Post.elim fun v h1 tk1 ρ1 o σ1 k1 S1 r1 => ?_
  exact ⟨h1, tk1, ρ1, .next, σ1, rfl, k1, S1, rfl⟩
theorem U.expr {G : Gl} {n : Nat} {sh : List (Str × Bool)} {gn : List Str} {K : Fl → St → Prop} {e : Expr} {pos : Pos} (H : In G n sh gn C) (h : Ev C e σ fun _ σ1 => K .next σ1)
    (hs : swapsWith e none pos.line C.env = pure false := by rfl) : Ex C (.Expr e pos) σ K := Ex.expr h (by unfold interactive; rw [H.ok.kind]; rfl) hs
end
theorem take3 {xs : List Int} {n : Nat} (h : n + 3 ≤ xs.length) : (xs.drop n).take 3 = [xs.getD n 0, xs.getD (n + 1) 0, xs.getD (n + 2) 0] := by
  rw [List.drop_eq_getElem_cons (by lia), List.drop_eq_getElem_cons (by lia), List.drop_eq_getElem_cons (by lia)]
  show [xs[n], xs[n + 1], xs[n + 2]] = _
  simp [List.getD_eq_getElem?_getD, List.getElem?_eq_getElem (show n < xs.length by lia), List.getElem?_eq_getElem (show n + 1 < xs.length by lia), List.getElem?_eq_getElem (show n + 2 < xs.length by lia)]
theorem bits_of {x : Int} (h : 0 < x) : 1 ≤ Builtin.Int.intBits x ∧ x < 2 ^ Builtin.Int.intBits x := by
  have hx : x.natAbs ≠ 0 := by (omega)
  unfold Builtin.Int.intBits
  rw [if_neg (by simp; lia)]
  refine ⟨by lia, ?_⟩
  have := Nat.lt_log2_self (n := x.natAbs)
  have h2 : ((2 ^ (x.natAbs.log2 + 1) : Nat) : Int) = 2 ^ (x.natAbs.log2 + 1) := castB _
  lia
end Mine
end

section -- Pg5
open PySem PySem.W PySem.Calls PyProof.Rows
set_option maxRecDepth 100000
namespace Mine
theorem ForK2.zip {α β : Type} {C : Cx} {is : List Nat} {body : List Stmt} {K : Fl → St → Prop} {f : α → D} {g : β → D} {xs : List α} {ys : List β} (hl : xs.length = ys.length) (J : Nat → St → Prop) {σ : St} (h0 : J 0 σ)
    (step : ∀ k x y σ, xs[k]? = some x → ys[k]? = some y → J k σ → Exs C body (σ.setls is [.d (f x), .d (g y)]) (loopK K (J (k + 1)))) (fin : ∀ σ, J xs.length σ → K .next σ) :
    ForK2 C is body K ((xs.map f).zip (ys.map g)) σ :=
  ForK2.inv _ J h0 (fun k x y σ hx hJ => by
    rw [List.getElem?_zip_eq_some, List.getElem?_map, List.getElem?_map] at hx
    cases h1 : xs[k]? with
    | none => rw [h1] at hx; simp at hx
    | some a =>
      cases h2 : ys[k]? with
      | none => rw [h2] at hx; simp at hx
      | some b =>
        rw [h1, h2] at hx
        obtain ⟨e1, e2⟩ := hx
        cases e1; cases e2
        exact step k a b σ h1 h2 hJ) (by simpa [hl] using fin)
section
variable {G : Gl} {n : Nat} {sh : List (Str × Bool)} {gn : List Str} {C : Cx} {σ : St}
theorem RepD.nought (P : Pg G) : RepD G.g (fun a => ∃ o, G.g.get? a = some o) (.tup [.bool false, .list []]) (.ref 193) := by
  simp only [RepD, RepDs]
  refine ⟨193, #[.bool false, .ref 192], _, rfl, P.nought.2.1, ⟨_, P.nought.2.1⟩, .bool false, [.ref 192], rfl, rfl, .ref 192, [], rfl, ⟨192, #[], _, rfl, P.nought.2.2, ⟨_, P.nought.2.2⟩, rfl⟩, rfl⟩
theorem U.nought {K : V → St → Prop} {pos : Pos} (P : Pg G) (H : In G n sh gn C) (hk : Mem gn (Str.ofString "NOUGHT")) (h : K (.d (.tup [.bool false, .list []])) σ) : Ev C (.Name (Str.ofString "NOUGHT") pos) σ K :=
  Ev.gloD H.ok (H.glo _ hk.mem) (by rw [H.mg]; exact g_nought P) (by rw [H.g]; exact RepD.nought P) h (by decide)

/-- what is asked of a comprehension's scope, to be decided -/
structure ScO (scope : Scope) (xs capn gn' : List Str) : Prop where
  kind : scope.kind = .function
  names : ∀ y ∈ scope.names, y.2 = .local → scope.names.lookup y.1 = some .local
  cell : ∀ y ∈ scope.names, y.2 ≠ .cell
  tg : ∀ x ∈ xs, scope.names.lookup x = some .local
  fr : ∀ y ∈ scope.names, y.2 = .free → y.1 ∈ capn
  fl : ∀ y ∈ capn, scope.names.lookup y = some .free
  nd : (xs ++ capn).Nodup
  gl : ∀ y ∈ gn', scope.names.lookup y = some .globalImplicit
theorem ScO.ok {scope : Scope} {xs capn gn' : List Str} {cap : List Nat} (O : ScO scope xs capn gn') (H : In G n sh gn C) (hc : cap.map (fun i => sh[i]?) = capn.map (fun y => some (y, true))) : ScopeOk C scope xs cap capn :=
  ⟨O.kind, O.names, O.cell, O.tg, O.fr, O.fl, by simpa using congrArg List.length hc, fun j i y h1 h2 => by
    have := congrArg (·[j]?) hc
    simp only [List.getElem?_map, h1, h2, Option.map_some] at this
    rw [H.shape]
    exact Option.some.inj this, O.nd⟩
theorem EvI.mono {iter : Expr} {K K' : List D → St → Prop} (h : EvI C iter σ K) (hK : ∀ l σ', K l σ' → K' l σ') : EvI C iter σ K' := fun hp tk ρ E R => by
  refine wpAny_mono (h hp tk ρ E R) (fun x s1 h1 => wpAny_mono h1 ?_ fun _ _ x => x) fun _ _ x => x
  rintro it s2 ⟨hm, h2, tk2, ρ2, σ2, items, I, fp, wr, P, S, e1, k, S2, r1, r2, r⟩
  exact ⟨hm, h2, tk2, ρ2, σ2, items, I, fp, wr, P, S, e1, hK _ _ k, S2, r1, r2, r⟩
theorem EvI2.mono {iter : Expr} {K K' : List (D × D) → St → Prop} (h : EvI2 C iter σ K) (hK : ∀ l σ', K l σ' → K' l σ') : EvI2 C iter σ K' := fun hp tk ρ E R => by
  refine wpAny_mono (h hp tk ρ E R) (fun x s1 h1 => wpAny_mono h1 ?_ fun _ _ x => x) fun _ _ x => x
  rintro it s2 ⟨hm, h2, tk2, ρ2, σ2, items, I, fp, wr, P, S, Mid, e1, k, S2, r1, r2, r⟩
  exact ⟨hm, h2, tk2, ρ2, σ2, items, I, fp, wr, P, S, Mid, e1, hK _ _ k, S2, r1, r2, r⟩
theorem ScO.shp {scope : Scope} {xs capn gn' : List Str} {cap : List Nat} (O : ScO scope xs capn gn') (hc : cap.map (fun i => sh[i]?) = capn.map (fun y => some (y, true))) : xs.map (fun x => (x, false)) ++ cap.map (fun i => (sh[i]?).getD default) = xs.map (fun x => (x, false)) ++ capn.map (fun y => (y, true)) := by
  congr 1
  have := congrArg (List.map (fun o => Option.getD o default)) hc
  simpa [List.map_map, Function.comp_def] using this
theorem U.comp1 {K : V → St → Prop} {elt iter : Expr} {x : Str} {px pos : Pos} {scope : Scope} (H : In G n sh gn C) (cap : List Nat) (capn gn' : List Str) (sh' : List (Str × Bool)) (hsh : (x, false) :: capn.map (fun y => (y, true)) = sh') (O : ScO scope [x] capn gn') (hc : cap.map (fun i => sh[i]?) = capn.map (fun y => some (y, true)))
    (h : EvI C iter σ fun items σ2 => items.length ≤ 1000000 ∧ ∀ C', In G n sh' gn' C' → CompK C' elt items ⟨none :: caps σ2 cap, σ2.mu⟩ fun ds σe => σe.loc.drop 1 = caps σ2 cap ∧ K (.d (.list ds)) ⟨σ2.loc, σe.mu⟩)
    (hs : ∀ x, foldedSetIterable iter C.env x = pure x := by intro _; rfl) : Ev C (.ListComp elt [⟨.Name x px, iter, [], 0⟩] scope pos) σ K :=
  Ev.comp1 (xs := [x]) (O.ok H hc) H.ok rfl (h.mono fun items σ2 ⟨h1, h2⟩ => ⟨h1, fun C' S => h2 C' (H.sub S _ _ (fun y hy => O.gl y hy) ((O.shp hc).trans hsh))⟩) hs
theorem swaps_comp {elt : Expr} {gs : List Comprehension} {scope : Scope} {pos py : Pos} {y : Str} {l : Nat} (H : In G n sh gn C) {i : Nat} (hy : At sh i y false) (hl : (py.line == pos.line) = true) (hn : (scope.names.any fun (n, k) => n == y && (k == .local || k == .cell)) = false) :
    swapsWith (.ListComp elt gs scope pos) (some (.Name y py)) l C.env = pure true := by
  show (pure (C.env.blockKind == .function && C.env.kindOf y == some .local && py.line == pos.line && !(scope.names.any fun (n, k) => n == y && (k == .local || k == .cell))) : Sem Bool) = pure true
  rw [block_fn H.ok, H.local hy.get, hl, hn]
  rfl
theorem U.setComp1 {K : Fl → St → Prop} {elt iter : Expr} {x y : Str} {px py spos pos : Pos} {i : Nat} {scope : Scope} (H : In G n sh gn C) (hy : At sh i y false) (cap : List Nat) (capn gn' : List Str) (sh' : List (Str × Bool)) (hsh : (x, false) :: capn.map (fun y => (y, true)) = sh') (O : ScO scope [x] capn gn') (hc : cap.map (fun i => sh[i]?) = capn.map (fun y => some (y, true)))
    (h : EvI C iter σ fun items σ2 => items.length ≤ 1000000 ∧ ∀ C', In G n sh' gn' C' → CompK C' elt items ⟨none :: caps σ2 cap, σ2.mu⟩ fun ds σe => σe.loc.drop 1 = caps σ2 cap ∧ K .next ((⟨σ2.loc, σe.mu⟩ : St).setl i (.d (.list ds))))
    (hl : (py.line == pos.line) = true) (hnm : (scope.names.any fun (n, k) => n == y && (k == .local || k == .cell)) = false)
    (hs : ∀ x, foldedSetIterable iter C.env x = pure x := by intro _; rfl) : Ex C (.Assign [.Name y py] (.ListComp elt [⟨.Name x px, iter, [], 0⟩] scope pos) spos) σ K :=
  Ex.setComp1 (xs := [x]) i (O.ok H hc) H.ok H.nm hy.name rfl (h.mono fun items σ2 ⟨h1, h2⟩ => ⟨h1, fun C' S => h2 C' (H.sub S _ _ (fun y hy => O.gl y hy) ((O.shp hc).trans hsh))⟩) (swaps_comp H hy hl hnm) hs
theorem U.comp2 {K : V → St → Prop} {elt iter : Expr} {x y : Str} {px py tp pos : Pos} {kt : Nat} {scope : Scope} (H : In G n sh gn C) (cap : List Nat) (capn gn' : List Str) (sh' : List (Str × Bool)) (hsh : (x, false) :: (y, false) :: capn.map (fun y => (y, true)) = sh') (O : ScO scope [x, y] capn gn') (hc : cap.map (fun i => sh[i]?) = capn.map (fun y => some (y, true)))
    (h : EvI2 C iter σ fun items σ2 => items.length ≤ 1000000 ∧ ∀ C', In G n sh' gn' C' → CompK2 C' elt [0, 1] items ⟨none :: none :: caps σ2 cap, σ2.mu⟩ fun ds σe => σe.loc.drop 2 = caps σ2 cap ∧ K (.d (.list ds)) ⟨σ2.loc, σe.mu⟩)
    (hs : ∀ x, foldedSetIterable iter C.env x = pure x := by intro _; rfl) : Ev C (.ListComp elt [⟨.Tuple [.Name x px, .Name y py] kt tp, iter, [], 0⟩] scope pos) σ K :=
  Ev.comp2 (xs := [x, y]) (O.ok H hc) H.ok (.cons 0 rfl (.cons 1 rfl .nil)) rfl (h.mono fun items σ2 ⟨h1, h2⟩ => ⟨h1, fun C' S => h2 C' (H.sub S _ _ (fun y hy => O.gl y hy) ((O.shp hc).trans hsh))⟩) hs
theorem U.setComp2 {K : Fl → St → Prop} {elt iter : Expr} {x y z : Str} {px py pz tp spos pos : Pos} {kt i : Nat} {scope : Scope} (H : In G n sh gn C) (hz : At sh i z false) (cap : List Nat) (capn gn' : List Str) (sh' : List (Str × Bool)) (hsh : (x, false) :: (y, false) :: capn.map (fun y => (y, true)) = sh') (O : ScO scope [x, y] capn gn') (hc : cap.map (fun i => sh[i]?) = capn.map (fun y => some (y, true)))
    (h : EvI2 C iter σ fun items σ2 => items.length ≤ 1000000 ∧ ∀ C', In G n sh' gn' C' → CompK2 C' elt [0, 1] items ⟨none :: none :: caps σ2 cap, σ2.mu⟩ fun ds σe => σe.loc.drop 2 = caps σ2 cap ∧ K .next ((⟨σ2.loc, σe.mu⟩ : St).setl i (.d (.list ds))))
    (hl : (pz.line == pos.line) = true) (hnm : (scope.names.any fun (n, k) => n == z && (k == .local || k == .cell)) = false)
    (hs : ∀ x, foldedSetIterable iter C.env x = pure x := by intro _; rfl) : Ex C (.Assign [.Name z pz] (.ListComp elt [⟨.Tuple [.Name x px, .Name y py] kt tp, iter, [], 0⟩] scope pos) spos) σ K :=
  Ex.setComp2 (xs := [x, y]) i (O.ok H hc) H.ok H.nm hz.name (.cons 0 rfl (.cons 1 rfl .nil)) rfl (h.mono fun items σ2 ⟨h1, h2⟩ => ⟨h1, fun C' S => h2 C' (H.sub S _ _ (fun y hy => O.gl y hy) ((O.shp hc).trans hsh))⟩) (swaps_comp H hz hl hnm) hs
theorem CompK.map {α : Type} {elt : Expr} {f r : α → D} {mu : List (Option (List D))} {rest : List (Option V)} : ∀ {xs : List α} {o : Option V} {K : List D → St → Prop},
    (∀ x ∈ xs, Ev C elt ⟨some (.d (f x)) :: rest, mu⟩ fun v σ1 => v = .d (r x) ∧ ∃ a, σ1 = ⟨a :: rest, mu⟩) → (∀ a, K (xs.map r) ⟨a :: rest, mu⟩) → CompK C elt (xs.map f) ⟨o :: rest, mu⟩ K
  | [], o, K, _, hK => hK o
  | x :: l, o, K, h, hK => (h x List.mem_cons_self).mono fun v σ1 ⟨e, a, e2⟩ => ⟨r x, e, by
      subst e2
      exact CompK.map (fun y hy => h y (List.mem_cons_of_mem _ hy)) (fun a => hK a)⟩
theorem CompK2.zip {α β : Type} {elt : Expr} {f : α → D} {g : β → D} {r : α → β → D} {mu : List (Option (List D))} {rest : List (Option V)} : ∀ {xs : List α} {ys : List β} {o1 o2 : Option V} {K : List D → St → Prop},
    (∀ x ∈ xs, ∀ y ∈ ys, Ev C elt ⟨some (.d (f x)) :: some (.d (g y)) :: rest, mu⟩ fun v σ1 => v = .d (r x y) ∧ ∃ a b, σ1 = ⟨a :: b :: rest, mu⟩) → (∀ a b, K (List.zipWith r xs ys) ⟨a :: b :: rest, mu⟩) → CompK2 C elt [0, 1] ((xs.map f).zip (ys.map g)) ⟨o1 :: o2 :: rest, mu⟩ K
  | [], _, o1, o2, K, _, hK => by simpa [CompK2] using hK o1 o2
  | x :: l, [], o1, o2, K, _, hK => by simpa [CompK2] using hK o1 o2
  | x :: l, y :: m, o1, o2, K, h, hK => (h x List.mem_cons_self y List.mem_cons_self).mono fun v σ1 ⟨e, a, b, e2⟩ => ⟨r x y, e, by
      subst e2
      exact CompK2.zip (fun x hx y hy => h x (List.mem_cons_of_mem _ hx) y (List.mem_cons_of_mem _ hy)) (fun a b => hK a b)⟩
end
end Mine
end

section -- Pg6
open PySem PySem.W PySem.Calls PyProof.Rows
set_option maxRecDepth 100000
namespace Mine
mutual
noncomputable def toP : D → PyData
  | .none => .none
  | .bool b => .bool b
  | .int i => .int i
  | .str x => .str x
  | .list l => .list (toPs l)
  | .tup l => .tuple (toPs l)
  | .val _ => .none
noncomputable def toPs : List D → List PyData
  | [] => []
  | x :: l => toP x :: toPs l
end
mutual
/-- no str in it, nothing that is no data -/
noncomputable def D.plain : D → Bool
  | .none | .bool _ | .int _ => true
  | .str _ | .val _ => false
  | .list l | .tup l => D.plains l
noncomputable def D.plains : List D → Bool
  | [] => true
  | x :: l => D.plain x && D.plains l
end
mutual
theorem reads_of {h : Heap} {G : Addr → Prop} : ∀ (x : D) (v : Value), x.plain = true → RepD h G x v → ∃ as, Reads h v (toP x) as
  | .none, v, _, r => by have r : v = .none := r; subst r; exact ⟨_, .none⟩
  | .bool b, v, _, r => by have r : v = .bool b := r; subst r; exact ⟨_, .bool b⟩
  | .int i, v, _, r => by obtain ⟨t, rfl⟩ := r; exact ⟨_, .int i t⟩
  | .str _, _, p, _ => Bool.noConfusion p
  | .val _, _, p, _ => Bool.noConfusion p
  | .list l, v, p, r => by
    obtain ⟨a, vs, n, rfl, hl, _, hr⟩ := r
    obtain ⟨as, hA⟩ := reads_ofs l vs.toList p hr
    exact ⟨_, .list hl rfl rfl hA⟩
  | .tup l, v, p, r => by
    obtain ⟨a, vs, n, rfl, hl, _, hr⟩ := r
    obtain ⟨as, hA⟩ := reads_ofs l vs.toList p hr
    exact ⟨_, .tuple hl rfl rfl hA⟩
theorem reads_ofs {h : Heap} {G : Addr → Prop} : ∀ (l : List D) (vs : List Value), D.plains l = true → RepDs h G l vs → ∃ as, ReadsAll h vs (toPs l) as
  | [], vs, _, r => by simp only [RepDs] at r; subst r; exact ⟨_, .nil⟩
  | x :: l, vs, p, r => by
    simp only [RepDs] at r
    obtain ⟨v, q, rfl, r1, r2⟩ := r
    simp only [D.plains, Bool.and_eq_true] at p
    obtain ⟨as, h1⟩ := reads_of x v p.1 r1
    obtain ⟨bs, h2⟩ := reads_ofs l q p.2 r2
    exact ⟨_, .cons h1 h2⟩
end
mutual
theorem canLay_toP : ∀ x : D, x.plain = true → (toP x).canLay0 = true
  | .none, _ => rfl
  | .bool _, _ => rfl
  | .int _, _ => rfl
  | .list l, p => by
    have := canLay_toPs l (by simpa [D.plain] using p)
    simpa [toP, PyData.canLay0] using this
  | .tup l, p => by
    have := canLay_toPs l (by simpa [D.plain] using p)
    simpa [toP, PyData.canLay0] using this
theorem canLay_toPs : ∀ l : List D, D.plains l = true → PyData.canLayAll0 (toPs l) = true
  | [], _ => rfl
  | x :: l, p => by
    simp only [D.plains, Bool.and_eq_true] at p
    simp only [toPs, PyData.canLayAll0, Bool.and_eq_true]
    exact ⟨canLay_toP x p.1, canLay_toPs l p.2⟩
end
mutual
theorem hasDict_toP : ∀ x : D, (toP x).hasDict = false
  | .none => rfl
  | .bool _ => rfl
  | .int _ => rfl
  | .str _ => rfl
  | .val _ => rfl
  | .list l => by simpa [toP, PyData.hasDict] using hasDict_toPs l
  | .tup l => by simpa [toP, PyData.hasDict] using hasDict_toPs l
theorem hasDict_toPs : ∀ l : List D, PyData.hasDictAll (toPs l) = false
  | [] => rfl
  | x :: l => by simp only [toPs, PyData.hasDictAll, hasDict_toP x, hasDict_toPs l]; rfl
end
theorem plains_ints : ∀ xs : List Int, D.plains (xs.map D.int) = true
  | [] => rfl
  | x :: l => by simp only [List.map_cons, D.plains, D.plain, plains_ints l]; rfl
theorem depth_ints : ∀ xs : List Int, PyData.depthAll (toPs (xs.map D.int)) = 0
  | [] => rfl
  | x :: l => by simp only [List.map_cons, toPs, toP, PyData.depthAll, PyData.depth, depth_ints l]; rfl
theorem eqv_ints : ∀ xs ys : List Int, PyData.eqvAll (toPs (xs.map D.int)) (toPs (ys.map D.int)) = (xs == ys)
  | [], [] => rfl
  | [], _ :: _ => rfl
  | _ :: _, [] => rfl
  | x :: xs, y :: ys => by
    simp only [List.map_cons, toPs, toP, PyData.eqvAll, PyData.eqv, eqv_ints xs ys]
    rfl
section
variable {C : Cx} {σ : St} {K : V → St → Prop}
theorem CmpK.eqLi {xs ys : List Int} (hu : C.A.units + 8 < cLine) (h : K (.d (.bool (xs == ys))) σ) : CmpK C .Eq (.d (Li xs)) (.d (Li ys)) σ K := fun hp tk ρ E a' b' R ra rb => by
  obtain ⟨as, r1⟩ := reads_of _ _ (by simpa [D.plain] using plains_ints xs) (show RepD hp ρ.gd (Li xs) a' from ra)
  obtain ⟨bs, r2⟩ := reads_of _ _ (by simpa [D.plain] using plains_ints ys) (show RepD hp ρ.gd (Li ys) b' from rb)
  refine SeqAt.compareEq_reads r1 r2 (canLay_toP _ (by simpa [D.plain] using plains_ints xs)) (canLay_toP _ (by simpa [D.plain] using plains_ints ys)) ?_ ?_
  · simp only [toP, PyData.depth, depth_ints]; show C.A.units + min 1 1 < cLine; lia
  · simp only [toP, PyData.eqv, eqv_ints]
    exact Post.ret R h rfl
theorem CmpK.neLi {xs ys : List Int} (hu : C.A.units + 8 < cLine) (h : K (.d (.bool (xs != ys))) σ) : CmpK C .NotEq (.d (Li xs)) (.d (Li ys)) σ K := fun hp tk ρ E a' b' R ra rb => by
  obtain ⟨as, r1⟩ := reads_of _ _ (by simpa [D.plain] using plains_ints xs) (show RepD hp ρ.gd (Li xs) a' from ra)
  obtain ⟨bs, r2⟩ := reads_of _ _ (by simpa [D.plain] using plains_ints ys) (show RepD hp ρ.gd (Li ys) b' from rb)
  refine SeqAt.compareNe_reads r1 r2 (canLay_toP _ (by simpa [D.plain] using plains_ints xs)) (canLay_toP _ (by simpa [D.plain] using plains_ints ys)) ?_ ?_
  · simp only [toP, PyData.depth, depth_ints]; show C.A.units + min 1 1 < cLine; lia
  · simp only [toP, PyData.eqv, eqv_ints]
    exact Post.ret R h rfl
/-- None in a list of lists -/
theorem CmpK.noneIn {l : List D} (hu : C.A.units + 8 < cLine) (hp : D.plains l = true) (hn : (toPs l).any (fun y => PyData.eqv y .none) = false) (h : K (.d (.bool false)) σ) : CmpK C .In (.d .none) (.d (.list l)) σ K := fun hp' tk ρ E a' b' R ra rb => by
  obtain ⟨as, r1⟩ := reads_of _ _ (by simpa [D.plain] using hp) (show RepD hp' ρ.gd (.list l) b' from rb)
  obtain ⟨bs, r2⟩ := reads_of .none _ rfl (show RepD hp' ρ.gd .none a' from ra)
  simp only [toP] at r1 r2
  refine SeqAt.in_list_reads r1 r2 (canLay_toPs _ hp) rfl ?_ ?_
  · show C.A.units + 1 + min _ 0 < cLine; rw [Nat.min_zero]; lia
  · rw [hn]; exact Post.ret R h rfl
theorem CmpK.neStr {x y : Str} (h : K (.d (.bool (x != y))) σ) : CmpK C .NotEq (.d (.str x)) (.d (.str y)) σ K := fun hp' tk ρ E a' b' R ra rb => by
  obtain ⟨t, rfl⟩ : ∃ t, a' = .str x t := by simpa only [Rep, RepD] using ra
  obtain ⟨u, rfl⟩ : ∃ t, b' = .str y t := by simpa only [Rep, RepD] using rb
  exact PyProof.Rows.ne_str (Post.ret R h rfl)
theorem CallK.repr {l : List D} (hg : C.A.guards = some []) (hp : D.plains l = true) (hs : (toP (.list l)).showable = true) (hd : (toP (.list l)).depth ≤ 6) (hu : C.A.units + 8 < cLine) (hsz : (toP (.list l)).shown.length ≤ sizeLine)
    (h : K (.d (.str (toP (.list l)).shown)) σ) : CallK C (.builtin "repr") [.d (.list l)] σ K := fun hp' tk ρ E vs R r => by
  obtain ⟨v, rfl, r1⟩ := reps1 r
  obtain ⟨as, rd⟩ := reads_of _ _ (by simpa [D.plain] using hp) (show RepD hp' ρ.gd (.list l) v from r1)
  simp only [Rep, RepD] at r1
  obtain ⟨a, ws, n, rfl, _⟩ := r1
  refine repr_of_reads' rd hs (PyData.noDict_hsm (hasDict_toP _)) hg (by lia) (fun _ _ e => e) (fun h' u tk' hk => ?_) hsz
  exact ⟨h', tk', ρ, _, σ, rfl, h, .grow R hk, by simp only [Rep, RepD]; exact ⟨_, rfl⟩⟩
noncomputable def sumI : List Int → Int
  | [] => 0
  | x :: l => x + sumI l
theorem sumI_append (xs ys : List Int) : sumI (xs ++ ys) = sumI xs + sumI ys := by
  induction xs with
  | nil => simp [sumI]
  | cons x l ih => simp only [List.cons_append, sumI, ih]; lia
theorem preSum_eq (xs : List Int) : ∀ j, j ≤ xs.length → preSum (fun i => xs.getD i 0) j = sumI (xs.take j)
  | 0, _ => by simp [preSum, sumI]
  | j + 1, h => by
    rw [preSum, preSum_eq xs j (by lia), List.take_succ, List.getElem?_eq_getElem (by lia), sumI_append]
    simp [sumI, List.getD_eq_getElem?_getD, List.getElem?_eq_getElem (show j < xs.length by lia)]
theorem CallK.sum {xs : List Int} (hh : C.A.handled = none) (h : K (.d (.int (sumI xs))) σ) : CallK C (.builtin "sum") [.d (Li xs)] σ K := fun hp tk ρ E vs R r => by
  obtain ⟨v, rfl, r1⟩ := reps1 r
  simp only [Rep, RepD] at r1
  obtain ⟨a, ws, n, rfl, hl, nl, hr⟩ := r1
  have e : ws.size = xs.length := by have := hr.length; simpa using this
  refine call_sum_walkG ?_
  refine wpAny_pyIter_list hl.isList ?_
  have hne : a ≠ hp.objs.size := Nat.ne_of_lt (Heap.lt_size hl)
  have W := Walks.list (prog := C.prog) (w := C.w) (A := C.A.in1) hh hp.objs.size a hne ws
  refine ⟨_, _, _, _, _, _, fun i => xs.getD i 0, rfl, W, ⟨⟨_, Heap.get?_push_size _ rfl, rfl, rfl⟩, (hl.push _).isList⟩, ?_, ?_, ?_⟩
  · intro b hb
    simp at hb
    rcases hb with rfl | rfl
    · rw [Heap.size_push]; exact Nat.lt_succ_self _
    · rw [Heap.size_push]; exact Nat.lt_succ_of_lt (Heap.lt_size hl)
  · intro i v hv
    obtain ⟨x, hx, rx⟩ := hr.get' (i := i) (v := v) (by simpa using hv)
    rw [List.getElem?_map] at hx
    cases q : xs[i]? with
    | none => rw [q] at hx; cases hx
    | some y =>
      rw [q] at hx; cases hx
      simp only [RepD] at rx
      obtain ⟨t, rfl⟩ := rx
      exact ⟨t, by simp only [List.getD_eq_getElem?_getD, q]; rfl⟩
  · intro h' tk' t' hk
    refine ⟨h', tk', ρ, _, σ, rfl, h, .grow R fun b o q => ?_, ?_⟩
    · refine hk b o (fun hb => ?_) (Heap.get?_push_of_some _ q)
      simp at hb; subst hb
      exact Nat.lt_irrefl _ (Heap.lt_size q)
    · rw [e, preSum_eq xs _ (Nat.le_refl _), List.take_length]
      exact ⟨_, rfl⟩
theorem BinK.pow2 {W : Nat} (hW : W ≤ 100000) (h : K (.d (.int (2 ^ W))) σ) : BinK C .Pow (.d (.int 2)) (.d (.int W)) σ K :=
  BinK.pow (by lia) (by have : Builtin.Int.intBits 2 = 2 := by decide +kernel
                        rw [this]; lia) (by rw [Int.toNat_natCast]; exact h)
theorem CompK2.enum {elt : Expr} {r : Nat → Int → D} {mu : List (Option (List D))} {rest : List (Option V)} : ∀ {xs : List Int} {s : Nat} {o1 o2 : Option V} {K : List D → St → Prop},
    (∀ (k : Nat) x, x ∈ xs → k < s + xs.length → Ev C elt ⟨some (.d (.int k)) :: some (.d (.int x)) :: rest, mu⟩ fun v σ1 => v = .d (r k x) ∧ ∃ a b, σ1 = ⟨a :: b :: rest, mu⟩) →
    (∀ a b, K ((xs.zipIdx s).map fun p => r p.2 p.1) ⟨a :: b :: rest, mu⟩) → CompK2 C elt [0, 1] (((xs.map D.int).zipIdx s).map fun p => (D.int (p.2 : Nat), p.1)) ⟨o1 :: o2 :: rest, mu⟩ K
  | [], s, o1, o2, K, _, hK => by simpa [CompK2] using hK o1 o2
  | x :: l, s, o1, o2, K, h, hK => (h s x List.mem_cons_self (by simp)).mono fun v σ1 ⟨e, a, b, e2⟩ => ⟨r s x, e, by
      subst e2
      exact CompK2.enum (s := s + 1) (fun k y hy hk => h k y (List.mem_cons_of_mem _ hy) (by simp at hk ⊢; lia)) (fun a b => by simpa using hK a b)⟩
end
theorem sum_val (W : Nat) : ∀ (xs : List Int) (s : Nat), sumI ((xs.zipIdx s).map fun p => p.1 * 2 ^ (W * p.2)) = (2 ^ W) ^ s * val (2 ^ W) xs
  | [], s => by simp [sumI, val]
  | x :: l, s => by
    simp only [List.zipIdx_cons, List.map_cons, sumI, sum_val W l (s + 1), val]
    have e : (2 : Int) ^ (W * s) = (2 ^ W) ^ s := Int.pow_mul
    rw [e, Int.pow_succ]
    grind
end Mine
end

section
open PySem PySem.W PySem.Calls PyProof.Rows
set_option maxRecDepth 100000
set_option maxHeartbeats 4000000
namespace Mine
local macro_rules | `(tactic| walk_at "at") => `(tactic| first | with_reducible exact At.zero | ((with_reducible apply At.succ); walk_at "at"))
local macro_rules | `(tactic| walk_at "mem") => `(tactic| first | with_reducible exact Mem.zero | ((with_reducible apply Mem.succ); walk_at "mem"))
local macro_rules | `(tactic| walk_at "loc") => `(tactic| ((with_reducible refine' U.loc (v := .d _) (by assumption) ?hx ?hv ?_ ?hd); (case hx => walk_at "at"); (case hv => rfl); (case hd => decide)))
local macro_rules | `(tactic| walk_at "mu") => `(tactic| ((with_reducible refine' U.loc (v := .mu _) (by assumption) ?hx ?hv ?_ ?hd); (case hx => walk_at "at"); (case hv => rfl); (case hd => decide)))
local macro_rules | `(tactic| walk_at "frz") => `(tactic| ((with_reducible refine' U.frz (by assumption) ?hx ?hv ?hk ?_ ?hd); (case hx => walk_at "at"); (case hv => rfl); (case hk => rfl); (case hd => decide)))
local macro_rules | `(tactic| walk_at "app") => `(tactic| ((refine' U.app (by assumption) ?hx ?hv ?hk ?_); (case hx => walk_at "at"); (case hv => rfl); (case hk => rfl)))
local macro_rules | `(tactic| walk_at "seti") => `(tactic| ((refine' U.setI (by assumption) ?hx ?hv ?hk ?_); (case hx => walk_at "at"); (case hv => rfl); (case hk => rfl)))
local macro_rules | `(tactic| walk_at "retfrz") => `(tactic| ((with_reducible refine' U.retfrz (by assumption) ?hx ?hv ?hk ?_ ?hd); (case hx => walk_at "at"); (case hv => rfl); (case hk => rfl); (case hd => decide)))
local macro_rules | `(tactic| walk_at "ev") => `(tactic| first
  | with_reducible refine Ev.cint ?_
  | walk_at "loc"
  | with_reducible refine Exs.cons ?_
  | with_reducible refine Exs.nil ?_
  | with_reducible refine Ev.zeros ?_
  | with_reducible refine Ev.binop ?_
  | with_reducible refine BinK.add ?_
  | with_reducible refine BinK.sub ?_
  | with_reducible refine AugK.add ?_
  | with_reducible refine AugK.sub ?_
  | ((with_reducible refine EvB.cmp ?_ ?he); (case he => with_unfolding_all rfl))
  | ((with_reducible refine Ev.cmp ?_ ?he); (case he => with_unfolding_all rfl))
  | with_reducible refine BinK.shl1 (by lia) ?_
  | with_reducible refine BinK.shrW ?_
  | with_reducible refine AugK.shrW ?_
  | with_reducible refine BinK.mask ?_
  | with_reducible refine CmpK.lt ?_
  | with_reducible refine CmpK.gt ?_
  | with_reducible refine CmpK.le ?_
  | with_reducible refine CmpK.ge ?_
  | with_reducible refine CmpK.eq ?_
  | with_reducible refine CmpK.ne ?_
  | with_reducible refine CmpK.eqb ?_
  | with_reducible refine CmpK.neb ?_
  | with_reducible refine TruK.bool ?_
  | with_reducible refine EvB.bool ?_
  | with_reducible refine EvBs.andcons ?_
  | with_reducible refine EvBs.orcons ?_
  | with_reducible refine EvBs.andnil ?_
  | with_reducible refine EvBs.ornil ?_
  | with_reducible refine EvB.not ?_
  | ((with_reducible refine EvA.cons ?_ ?he); (case he => rfl))
  | with_reducible refine EvA.nil ?_
  | ((with_reducible refine Ev.slice ?_ ?he); (case he => intro _ _; rfl))
  | with_reducible refine Ev.sub ?_
  | ((refine' SubK.tup ?h0 ?hk ?hx ?_); (case h0 => decide); (case hk => decide); (case hx => rfl))
  | with_reducible refine Ev.unop ?_
  | with_reducible refine UnK.neg ?_
  | with_reducible refine UnK.not ?_
  | with_reducible refine Ev.cbool ?_
  | with_reducible refine Ev.cnone ?_
  | with_reducible refine both_tt ?_
  | with_reducible refine both_ff ?_
  | with_reducible refine EvP.none ?_
  | with_reducible refine EvP.some ?_
  | with_reducible refine Ev.tup ?_
  | with_reducible refine Ev.and ?_
  | walk_at "retfrz"
  | with_reducible refine Ex.ret ?_
  | with_reducible refine Ex.ite ?_
  | with_reducible refine Ev.ite ?_
  | ((with_reducible refine' U.set (by assumption) ?hx ?_ ?hs); (case hx => walk_at "at"); (case hs => rfl))
  | ((with_reducible refine' U.aug (by assumption) ?hx ?hv ?_); (case hx => walk_at "at"); (case hv => rfl)))
local macro_rules | `(tactic| walk_at "evs") => `(tactic| repeat walk_at "ev")

section -- Pa
theorem norm_take {xs : List Int} {n : Nat} (h : n + 1 ≤ xs.length) (hz : xs.getD n 0 = 0) : norm (xs.take n) = norm (xs.take (n + 1)) := by
  have hn : n < xs.length := by lia
  have e : xs.take (n + 1) = xs.take n ++ [0] := by
    rw [List.take_succ, List.getElem?_eq_getElem hn]
    rw [List.getD_eq_getElem?_getD, List.getElem?_eq_getElem hn] at hz
    simp at hz
    simp [hz]
  rw [e]
  simp [norm]
theorem norm_id {xs : List Int} {n : Nat} (h : n ≤ xs.length) (hz : n = 0 ∨ xs.getD (n - 1) 0 ≠ 0) : norm (xs.take n) = xs.take n := by
  rcases Nat.eq_zero_or_pos n with rfl | hp
  · simp [norm]
  · obtain ⟨m, rfl⟩ : ∃ m, n = m + 1 := ⟨n - 1, by lia⟩
    have hn : m < xs.length := by lia
    have e : xs.take (m + 1) = xs.take m ++ [xs[m]] := by
      rw [List.take_succ, List.getElem?_eq_getElem hn]; rfl
    have hx : xs[m] ≠ 0 := by
      rcases hz with hz | hz
      · lia
      · rw [List.getD_eq_getElem?_getD] at hz
        simp at hz
        rwa [List.getElem?_eq_getElem hn] at hz
    rw [e]
    unfold norm
    rw [List.reverse_append]
    simp [hx]
theorem normal_c {G : Gl} (P : Pg G) (xs : List Int) (hx : xs.length ≤ 1000) : Fn G 1 58 [.d (Li xs)] [] (Li (norm xs)) [] := by
  refine Fn.here P 0 rfl rfl [(S "a", false), (S "end", false)] [S "len"] 1 [S "a"] (fun _ _ _ _ => rfl) (by decide +kernel) rfl (by decide) rfl rfl rfl (by decide +kernel) rfl rfl rfl rfl ?_
  intro C H
  walk_at "evs"
  refine U.callB (by assumption) (by walk_at "mem") (b_len P) (.builtin _) ?_
  walk_at "evs"
  refine CallK.lenLi ?_ (by lia)
  walk_at "evs"
  refine Ex.while (fun n σ => n ≤ xs.length ∧ (∃ z, σ = ⟨[some (.d (Li xs)), some (.d (.int z))], []⟩ ∧ z = n) ∧ norm (xs.take n) = norm xs) xs.length ⟨Nat.le_refl _, ⟨_, rfl, rfl⟩, by simp⟩ ?_
  rintro n _ ⟨hn, ⟨z, rfl, rfl⟩, hx2⟩
  walk_at "evs"
  first | refine both_dec (fun hc => ?_) (fun hc => ?_) | refine both_eq (fun hc => ?_) (fun hc => ?_) | refine both_ne (fun hc => ?_) (fun hc => ?_) | refine ⟨fun hc => ?_, fun hc => ?_⟩
  · have hp : 0 < n := by lia
    walk_at "evs"
    refine U.sub (xs := xs) .d (by lia) (by lia) (by lia) ?_
    have e : ((n : Int) - 1).toNat = n - 1 := by lia
    rw [e]
    walk_at "evs"
    first | refine both_dec (fun hc => ?_) (fun hc => ?_) | refine both_eq (fun hc => ?_) (fun hc => ?_) | refine both_ne (fun hc => ?_) (fun hc => ?_) | refine ⟨fun hc => ?_, fun hc => ?_⟩
    · walk_at "evs"
      exact ⟨n - 1, by (clear e; omega), by (clear e; lia), ⟨_, rfl, by (clear e; lia)⟩, by rw [norm_take (by (clear e; lia)) hc, Nat.sub_add_cancel hp, hx2]⟩
    · walk_at "evs"
      refine ⟨_, rfl, ?_⟩
      refine ⟨_, .d, by simp; lia, .inl ?_, by simp⟩
      rw [cutD_to hn, ← hx2, norm_id hn (.inr hc)]
  · walk_at "evs"
    refine ⟨_, rfl, ?_⟩
    refine ⟨_, .d, by simp; lia, .inl ?_, by simp⟩
    rw [cutD_to hn, ← hx2, norm_id hn (.inl (by lia))]
end

section -- Pb
theorem lift3 {x y z : Int} : (if x < y then (-1 : Int) else z) = if x < y then -1 else z := rfl
noncomputable def cmp (a b : Nat) : Int := if a < b then -1 else if b < a then 1 else 0
theorem cmp_lt {a b : Nat} (h : a < b) : cmp a b = -1 := by simp [cmp, h]
theorem cmp_gt {a b : Nat} (h : b < a) : cmp a b = 1 := by simp [cmp, h]; lia
theorem cmp_eq (a : Nat) : cmp a a = 0 := by simp [cmp]
theorem drop_same {xs ys : List Int} {i : Nat} (hx : i < xs.length) (hy : i < ys.length) (h : xs.getD i 0 = ys.getD i 0) (hd : xs.drop (i + 1) = ys.drop (i + 1)) : xs.drop i = ys.drop i := by
  rw [List.drop_eq_getElem_cons hx, List.drop_eq_getElem_cons hy, hd]
  rw [List.getD_eq_getElem?_getD, List.getElem?_eq_getElem hx, List.getD_eq_getElem?_getD, List.getElem?_eq_getElem hy] at h
  simp at h
  rw [h]
theorem compare_c {G : Gl} (P : Pg G) {B : Nat} (hB : 2 ≤ B) (a b : Nat) (ha : (dg B a).length ≤ 1000) (hb : (dg B b).length ≤ 1000) : Fn G 1 65 [.d (Li (dg B a)), .d (Li (dg B b))] [] (.int (cmp a b)) [] := by
  have ma := lm_dg hB a
  have mb := lm_dg hB b
  have va := val_dg hB a
  have vb := val_dg hB b
  have lt := @dg_len_lt B hB a b
  have gt := @dg_len_lt B hB b a
  have inj := @dg_inj B hB a b
  generalize hxs : dg B a = xs at *
  generalize hys : dg B b = ys at *
  refine Fn.here P 1 rfl rfl [(S "a", false), (S "b", false), (S "at", false)] [S "len", S "range"] 1 [S "a", S "b"] (fun _ _ _ _ _ => rfl) (by decide +kernel) rfl (by decide) rfl rfl rfl (by decide +kernel) rfl rfl rfl rfl ?_
  intro C H
  walk_at "evs"
  refine U.callB (by assumption) (by walk_at "mem") (b_len P) (.builtin _) ?_
  walk_at "evs"
  refine CallK.lenLi ?_ (by lia)
  walk_at "evs"
  refine U.callB (by assumption) (by walk_at "mem") (b_len P) (.builtin _) ?_
  walk_at "evs"
  refine CallK.lenLi ?_ (by lia)
  walk_at "evs"
  first | refine both_dec (fun hc => ?_) (fun hc => ?_) | refine both_eq (fun hc => ?_) (fun hc => ?_) | refine both_ne (fun hc => ?_) (fun hc => ?_) | refine ⟨fun hc => ?_, fun hc => ?_⟩
  · walk_at "evs"
    refine U.callB (by assumption) (by walk_at "mem") (b_len P) (.builtin _) ?_
    walk_at "evs"
    refine CallK.lenLi ?_ (by lia)
    walk_at "evs"
    refine U.callB (by assumption) (by walk_at "mem") (b_len P) (.builtin _) ?_
    walk_at "evs"
    refine CallK.lenLi ?_ (by lia)
    walk_at "evs"
    first | refine both_dec (fun hc => ?_) (fun hc => ?_) | refine both_eq (fun hc => ?_) (fun hc => ?_) | refine both_ne (fun hc => ?_) (fun hc => ?_) | refine ⟨fun hc => ?_, fun hc => ?_⟩
    · walk_at "evs"
      exact ⟨.inl (by rw [cmp_lt (lt (by lia))]), by simp⟩
    · walk_at "evs"
      exact ⟨.inl (by rw [cmp_gt (gt (by lia))]), by simp⟩
  · have hl : xs.length = ys.length := by lia
    walk_at "evs"
    refine U.for (by assumption) (by walk_at "at") ?_
    refine U.rangeDown (by assumption) (by walk_at "mem") (b_range P) ?_
    walk_at "evs"
    refine U.callB (by assumption) (by walk_at "mem") (b_len P) (.builtin _) ?_
    walk_at "evs"
    refine CallK.lenLi ?_ (by lia)
    walk_at "evs"
    refine ⟨_, rfl, by lia, by lia, ?_⟩
    refine ForK.rng (fun k σ => (∃ o, σ = ⟨[some (.d (Li xs)), some (.d (Li ys)), o], []⟩) ∧ xs.drop (xs.length - k) = ys.drop (xs.length - k)) ⟨⟨_, rfl⟩, by rw [Nat.sub_zero, List.drop_length, hl, List.drop_length]⟩ ?_ ?_
    · rintro k _ hk ⟨⟨o, rfl⟩, hd⟩
      have e : ((xs.length : Int) - 1 + k * -1) = ((xs.length - 1 - k : Nat) : Int) := by lia
      rw [e]
      have e2 : xs.length - k = xs.length - 1 - k + 1 := by lia
      rw [e2] at hd
      have hi : xs.length - 1 - k < xs.length := by lia
      have e3 : xs.length - (k + 1) = xs.length - 1 - k := by lia
      generalize xs.length - 1 - k = i at *
      walk_at "evs"
      refine U.sub (xs := xs) .d (by (clear e; lia)) (by (clear e; lia)) (by lia) ?_
      walk_at "evs"
      refine U.sub (xs := ys) .d (by (clear e; lia)) (by (clear e; lia)) (by (clear ha; lia)) ?_
      walk_at "evs"
      rw [Int.toNat_natCast]
      first | refine both_dec (fun hc => ?_) (fun hc => ?_) | refine both_eq (fun hc => ?_) (fun hc => ?_) | refine both_ne (fun hc => ?_) (fun hc => ?_) | refine ⟨fun hc => ?_, fun hc => ?_⟩
      · walk_at "evs"
        refine U.sub (xs := xs) .d (by (clear e; lia)) (by (clear e; lia)) (by lia) ?_
        walk_at "evs"
        refine U.sub (xs := ys) .d (by (clear e; lia)) (by (clear e; lia)) (by (clear ha; lia)) ?_
        walk_at "evs"
        rw [Int.toNat_natCast]
        first | refine both_dec (fun hc => ?_) (fun hc => ?_) | refine both_eq (fun hc => ?_) (fun hc => ?_) | refine both_ne (fun hc => ?_) (fun hc => ?_) | refine ⟨fun hc => ?_, fun hc => ?_⟩
        · walk_at "evs"
          have := drop_lt hB ma mb hl hi hd hc
          exact ⟨.inl (by rw [cmp_lt (by lia)]), by simp⟩
        · walk_at "evs"
          have := drop_lt hB mb ma hl.symm (by (clear e; lia)) hd.symm (by lia)
          exact ⟨.inl (by rw [cmp_gt (by lia)]), by simp⟩
      · walk_at "evs"
        refine ⟨⟨_, rfl⟩, ?_⟩
        rw [e3]
        exact drop_same hi (by (clear e; lia)) hc hd
    · rintro _ ⟨⟨o, rfl⟩, hd⟩
      walk_at "evs"
      have e : xs.length - ((xs.length : Int) - 1 + 1).toNat = 0 := by lia
      rw [e] at hd
      have := inj (by simpa using hd)
      subst this
      exact ⟨.inl (by rw [cmp_eq]), by simp⟩

theorem mask_eq (W : Nat) : (1 : Int) * 2 ^ ((W : Int)).toNat - 1 = 2 ^ W - 1 := by rw [Int.toNat_natCast]; lia
theorem carry_ok {B c x : Int} (hB : 0 < B) (c0 : 0 ≤ c) (c1 : c ≤ 1) (x0 : 0 ≤ x) (x1 : x ≤ 2 * B - 2) : 0 ≤ (c + x) / B ∧ (c + x) / B ≤ 1 :=
  ⟨Int.ediv_nonneg (by lia) (by lia), by have := Int.ediv_lt_of_lt_mul (a := c + x) (b := 2) hB (by lia); lia⟩
inductive JAdd0 (W a b : Nat) (σ : St) : Prop where
  | mk (xs ys : List Int) (a' b' : Nat) (e0 : σ = ⟨[some (.d (Li xs)), some (.d (Li ys)), some (.d (.int W)), none, none, none, none], []⟩) (e1 : ys.length ≤ xs.length) (e2 : xs.length ≤ 1000) (e3 : Lm (2 ^ W) xs) (e4 : Lm (2 ^ W) ys) (e5 : val (2 ^ W) xs = a') (e6 : val (2 ^ W) ys = b') (e7 : (xs.length = 0 ∨ ((2 : Int) ^ W) ^ (xs.length - 1) ≤ a')) (e8 : a' + b' = a + b)
inductive JAdd1 (xs ys : List Int) (W : Nat) (k : Nat) (σ : St) : Prop where
  | mk (f : List Int) (c : Int) (o : Option V) (e0 : σ = ⟨[some (.d (Li xs)), some (.d (Li ys)), some (.d (.int W)), some (.mu 0), some (.d (.int c)), some (.d (.int (2 ^ W - 1))), o], [some (f.map D.int)]⟩) (e1 : f.length = k) (e2 : Lm (2 ^ W) f) (e3 : 0 ≤ c) (e4 : c ≤ 1) (e5 : val (2 ^ W) f + (2 ^ W) ^ k * c = val (2 ^ W) (xs.take k) + val (2 ^ W) (ys.take k))
inductive JAdd2 (xs ys : List Int) (W b' : Nat) (k : Nat) (σ : St) : Prop where
  | mk (f : List Int) (c : Int) (o : Option V) (e0 : σ = ⟨[some (.d (Li xs)), some (.d (Li ys)), some (.d (.int W)), some (.mu 0), some (.d (.int c)), some (.d (.int (2 ^ W - 1))), o], [some (f.map D.int)]⟩) (e1 : f.length = ys.length + k) (e2 : Lm (2 ^ W) f) (e3 : 0 ≤ c) (e4 : c ≤ 1) (e5 : val (2 ^ W) f + (2 ^ W) ^ (ys.length + k) * c = val (2 ^ W) (xs.take (ys.length + k)) + b')
theorem add_c {G : Gl} (P : Pg G) {W : Nat} (hW : 1 ≤ W) (hW2 : W ≤ 12) (a b : Nat) (ha : (dg (2 ^ W) a).length ≤ 1000) (hb : (dg (2 ^ W) b).length ≤ 1000) :
    Fn G 1 72 [.d (Li (dg (2 ^ W) a)), .d (Li (dg (2 ^ W) b)), .d (.int W)] [] (Li (dg (2 ^ W) (a + b))) [] := by
  have hB := base_two hW
  have ma := lm_dg hB a
  have mb := lm_dg hB b
  have va := val_dg hB a
  have vb := val_dg hB b
  have ga := dg_ge hB a
  have gb := dg_ge hB b
  have hBp := two_le hW
  rw [castB] at ma mb va vb ga gb
  generalize hxs : dg (2 ^ W) a = xs at *
  generalize hys : dg (2 ^ W) b = ys at *
  refine Fn.here P 2 rfl rfl [(S "a", false), (S "b", false), (S "w", false), (S "found", false), (S "carry", false), (S "mask", false), (S "at", false)] [S "len", S "range"] 4 [S "a", S "b", S "w"] (fun _ _ _ _ _ _ => rfl) (by decide +kernel) rfl (by decide) rfl rfl rfl (by decide +kernel) rfl rfl rfl rfl ?_
  intro C H
  refine Exs.mid (JAdd0 W a b) ?_ ?_
  · walk_at "evs"
    refine U.callB (by assumption) (by walk_at "mem") (b_len P) (.builtin _) ?_; walk_at "evs"; refine CallK.lenLi ?_ (by lia); walk_at "evs"
    refine U.callB (by assumption) (by walk_at "mem") (b_len P) (.builtin _) ?_; walk_at "evs"; refine CallK.lenLi ?_ (by lia); walk_at "evs"
    first | refine both_dec (fun hc => ?_) (fun hc => ?_) | refine both_eq (fun hc => ?_) (fun hc => ?_) | refine both_ne (fun hc => ?_) (fun hc => ?_) | refine ⟨fun hc => ?_, fun hc => ?_⟩
    · walk_at "evs"
      refine U.swap2 (by assumption) (by walk_at "at") (by walk_at "at") ?_; walk_at "evs"
      refine ⟨_, _, rfl, ?_⟩
      walk_at "evs"
      exact ⟨rfl, ys, xs, b, a, rfl, by lia, by (omega), mb, ma, vb, va, gb, by lia⟩
    · walk_at "evs"
      exact ⟨rfl, xs, ys, a, b, rfl, by lia, by (omega), ma, mb, va, vb, ga, by lia⟩
  · clear hxs ha ma va ga hys hb mb vb gb
    rintro _ ⟨xs, ys, a', b', rfl, hl, hx, ma, mb, va, vb, ga, hs⟩
    rw [← hs]
    clear hs
    walk_at "evs"
    refine U.swap3 (by assumption) (by walk_at "at") (by walk_at "at") (by walk_at "at") ?_; walk_at "evs"
    refine Ev.fresh (EvF.nil ?_); walk_at "evs"
    refine ⟨_, _, _, rfl, ?_⟩
    walk_at "evs"
    refine U.for (by assumption) (by walk_at "at") ?_
    refine U.range1 (by assumption) (by walk_at "mem") (b_range P) ?_; walk_at "evs"
    refine U.callB (by assumption) (by walk_at "mem") (b_len P) (.builtin _) ?_; walk_at "evs"; refine CallK.lenLi ?_ (by lia); walk_at "evs"
    refine ⟨_, rfl, by lia, by lia, ?_⟩
    rw [Int.toNat_natCast]
    refine ForK.rng (JAdd1 xs ys W) ⟨[], 0, none, rfl, rfl, Lm.nil _, by lia, by lia, by simp [val]⟩ ?_ ?_
    · rintro k _ hk ⟨f, c, o, rfl, fl, fm, c0, c1, hv⟩
      have e : (0 + k * 1 : Int) = (k : Nat) := by lia
      rw [e]
      walk_at "evs"
      refine U.sub (xs := xs) .d (by lia) (by lia) (by lia) ?_; walk_at "evs"
      refine U.sub (xs := ys) .d (by lia) (by lia) (by lia) ?_; walk_at "evs"
      rw [Int.toNat_natCast]
      walk_at "app"; walk_at "evs"
      refine ⟨_, rfl, rfl, by lia, ?_⟩
      walk_at "evs"
      have hx1 := ma.get (show k < xs.length by lia)
      have hy1 := mb.get (show k < ys.length by (omega))
      have hc := carry_ok (B := 2 ^ W) (by (clear hB; lia)) c0 c1 (x := xs.getD k 0 + ys.getD k 0) (by lia) (by lia)
      refine ⟨_, _, _, rfl, by simp [fl], fm.push (by (clear hB; lia)), hc.1, hc.2, ?_⟩
      rw [push_step fl hv, val_take (by lia), val_take (by (omega))]; grind
    · rintro _ ⟨f, c, o, rfl, fl, fm, c0, c1, hv⟩
      have t0 : ys.take ys.length = ys := List.take_length
      rw [t0, vb] at hv
      walk_at "evs"
      refine U.for (by assumption) (by walk_at "at") ?_
      refine U.range2 (by assumption) (by walk_at "mem") (b_range P) ?_; walk_at "evs"
      refine U.callB (by assumption) (by walk_at "mem") (b_len P) (.builtin _) ?_; walk_at "evs"; refine CallK.lenLi ?_ (by lia); walk_at "evs"
      refine U.callB (by assumption) (by walk_at "mem") (b_len P) (.builtin _) ?_; walk_at "evs"; refine CallK.lenLi ?_ (by lia); walk_at "evs"
      refine ⟨_, _, rfl, by lia, by lia, by lia, by lia, ?_⟩
      have e : ((xs.length : Int) - ys.length).toNat = xs.length - ys.length := by lia
      rw [e]
      refine ForK.rng (JAdd2 xs ys W b') ⟨f, c, _, rfl, fl, fm, c0, c1, hv⟩ ?_ ?_
      · clear fl fm c0 c1 hv
        rintro k _ hk ⟨f, c, o, rfl, fl, fm, c0, c1, hv⟩
        have e : ((ys.length : Int) + k * 1 : Int) = ((ys.length + k : Nat) : Int) := by lia
        rw [e]
        walk_at "evs"
        refine U.sub (xs := xs) .d (by lia) (by lia) (by lia) ?_; walk_at "evs"
        rw [Int.toNat_natCast]
        walk_at "app"; walk_at "evs"
        refine ⟨_, rfl, rfl, by lia, ?_⟩
        walk_at "evs"
        have hx1 := ma.get (show ys.length + k < xs.length by lia)
        have hc := carry_ok (B := 2 ^ W) (by (clear hB; lia)) c0 c1 (x := xs.getD (ys.length + k) 0) (by lia) (by (clear hB hBp; lia))
        refine ⟨_, _, _, rfl, by simp [fl]; lia, fm.push (by (clear hB; lia)), hc.1, hc.2, ?_⟩
        rw [← Nat.add_assoc, push_step fl hv, val_take (by lia)]; grind
      · clear fl fm c0 c1 hv
        rintro _ ⟨f, c, o, rfl, fl, fm, c0, c1, hv⟩
        have e2 : ys.length + (xs.length - ys.length) = xs.length := by (clear e; lia)
        rw [e2] at fl hv
        rw [List.take_length, va] at hv
        walk_at "evs"
        first | refine both_dec (fun hc => ?_) (fun hc => ?_) | refine both_eq (fun hc => ?_) (fun hc => ?_) | refine both_ne (fun hc => ?_) (fun hc => ?_) | refine ⟨fun hc => ?_, fun hc => ?_⟩
        · have : c = 1 := by lia
          subst this
          walk_at "evs"
          walk_at "app"; walk_at "evs"
          refine ⟨_, rfl, rfl, by lia, ?_⟩
          walk_at "evs"
          refine ⟨.inl ?_, by simp⟩
          congr 3
          have := dg_of (B := 2 ^ W) hB (xs := f ++ [1]) (n := a' + b') (by rw [castB]; exact fm.snoc (by lia) (by (clear hB; lia))) (by simp) (by rw [castB, val_append, val_one, fl, hv]; lia)
          rw [← this]
        · have : c = 0 := by lia
          subst this
          walk_at "evs"
          refine ⟨.inl ?_, by simp⟩
          congr 3
          have := dg_of_ge (B := 2 ^ W) hB (xs := f) (n := a' + b') (by rw [castB]; exact fm) (by rw [castB, fl]; lia) (by rw [castB]; lia)
          rw [← this]
end

section -- Pc1
inductive JSub (xs ys : List Int) (W : Nat) (k : Nat) (σ : St) : Prop where
  | mk (f : List Int) (c : Int) (o o2 : Option V) (e0 : σ = ⟨[some (.d (Li xs)), some (.d (Li ys)), some (.d (.int W)), some (.mu 0), some (.d (.int c)), some (.d (.int (2 ^ W))), o, o2], [some (f.map D.int)]⟩) (e1 : f.length = k) (e2 : Lm (2 ^ W) f) (e3 : 0 ≤ c) (e4 : c ≤ 1) (e5 : val (2 ^ W) f - (2 ^ W) ^ k * c = val (2 ^ W) (xs.take k) - val (2 ^ W) (ys.take k))
theorem sub_c {G : Gl} (P : Pg G) {W : Nat} (hW : 1 ≤ W) (hW2 : W ≤ 12) (a b : Nat) (hab : b ≤ a) (ha : (dg (2 ^ W) a).length ≤ 1000) (hb : (dg (2 ^ W) b).length ≤ 1000) :
    Fn G 2 79 [.d (Li (dg (2 ^ W) a)), .d (Li (dg (2 ^ W) b)), .d (.int W)] [] (Li (dg (2 ^ W) (a - b))) [] := by
  have hB := base_two hW
  have cc := compare_c P hB a b ha hb
  have ma := lm_dg hB a
  have mb := lm_dg hB b
  have va := val_dg hB a
  have vb := val_dg hB b
  have hBp := two_le hW
  have hyl : (dg (2 ^ W) b).length ≤ (dg (2 ^ W) a).length := by
    rcases Nat.lt_or_ge (dg (2 ^ W) a).length (dg (2 ^ W) b).length with q | q
    · have := dg_len_lt hB q; (exfalso; lia)
    · exact q
  rw [castB] at ma mb va vb
  generalize hxs : dg (2 ^ W) a = xs at *
  generalize hys : dg (2 ^ W) b = ys at *
  refine Fn.here P 3 rfl rfl [(S "a", false), (S "b", false), (S "w", false), (S "found", false), (S "borrow", false), (S "base", false), (S "at", false), (S "limb", false)] [S "compare", S "OutOfRange", S "range", S "len", S "normal"] 5 [S "a", S "b", S "w"] (fun _ _ _ _ _ _ => rfl) (by decide +kernel) rfl (by decide) rfl rfl rfl (by decide +kernel) rfl rfl rfl rfl ?_
  intro C H
  walk_at "evs"
  refine U.call (by assumption) (by walk_at "mem") (g_compare P) (f_compare P) ?_; walk_at "evs"
  walk_at "evs"
  refine CallK.pure (by assumption) cc (by lia) (by simp) ?_
  walk_at "evs"
  refine both_dec (fun hc => ?_) (fun _ => ?_)
  · have : 0 ≤ cmp a b := by unfold cmp; rw [if_neg (by lia)]; split <;> lia
    (exfalso; lia)
  walk_at "evs"
  refine U.swap3 (by assumption) (by walk_at "at") (by walk_at "at") (by walk_at "at") ?_; walk_at "evs"
  refine Ev.fresh (EvF.nil ?_); walk_at "evs"
  refine ⟨_, _, _, rfl, ?_⟩
  walk_at "evs"
  refine U.for (by assumption) (by walk_at "at") ?_
  refine U.range1 (by assumption) (by walk_at "mem") (b_range P) ?_; walk_at "evs"
  refine U.callB (by assumption) (by walk_at "mem") (b_len P) (.builtin _) ?_; walk_at "evs"; refine CallK.lenLi ?_ (by lia); walk_at "evs"
  refine ⟨_, rfl, by lia, by lia, ?_⟩
  rw [Int.toNat_natCast]
  refine ForK.rng (JSub xs ys W) ⟨[], 0, none, none, rfl, rfl, Lm.nil _, by lia, by lia, by simp [val]⟩ ?_ ?_
  · rintro k _ hk ⟨f, c, o, o2, rfl, fl, fm, c0, c1, hv⟩
    have e : (0 + k * 1 : Int) = (k : Nat) := by lia
    rw [e]
    refine Exs.mid (fun σ => σ = ⟨[some (.d (Li xs)), some (.d (Li ys)), some (.d (.int W)), some (.mu 0), some (.d (.int c)), some (.d (.int (2 ^ W))), some (.d (.int k)), some (.d (.int (xs.getD k 0 - c - ys.getD k 0)))], [some (f.map D.int)]⟩) ?_ ?_
    · walk_at "evs"
      refine U.sub (xs := xs) .d (by lia) (by lia) (by lia) ?_; walk_at "evs"
      rw [Int.toNat_natCast]
      refine U.callB (by assumption) (by walk_at "mem") (b_len P) (.builtin _) ?_; walk_at "evs"; refine CallK.lenLi ?_ (by (clear hyl; lia)); walk_at "evs"
      first | refine both_dec (fun hc => ?_) (fun hc => ?_) | refine both_eq (fun hc => ?_) (fun hc => ?_) | refine both_ne (fun hc => ?_) (fun hc => ?_) | refine ⟨fun hc => ?_, fun hc => ?_⟩
      · walk_at "evs"
        refine U.sub (xs := ys) .d (by lia) (by (omega)) (by (clear hyl; lia)) ?_; walk_at "evs"
        rw [Int.toNat_natCast]
        exact ⟨rfl, rfl⟩
      · walk_at "evs"
        have : ys.getD k 0 = 0 := by rw [List.getD_eq_getElem?_getD, List.getElem?_eq_none (by lia)]; rfl
        rw [this]
        exact ⟨rfl, rfl⟩
    rintro _ rfl
    have hx1 := ma.get' (by (clear hB; lia)) k
    have hy1 := mb.get' (by (clear hB; lia)) k
    have tx := val_take' (B := 2 ^ W) (xs := xs) (k := k)
    have ty := val_take' (B := 2 ^ W) (xs := ys) (k := k)
    generalize xs.getD k 0 = x at *
    generalize ys.getD k 0 = y at *
    generalize hz : x - c - y = z at *
    have pp := powpos (B := 2 ^ W) (by (clear hB; lia)) k
    rcases Int.lt_or_le z 0 with q | q
    · walk_at "evs"
      refine both_dec (fun _ => ?_) (fun hc => by (exfalso; clear hz; lia))
      walk_at "evs"
      walk_at "app"; walk_at "evs"
      refine both_dec (fun _ => ?_) (fun hc => by (exfalso; clear hz; lia))
      walk_at "evs"
      refine ⟨_, rfl, rfl, by lia, ?_⟩
      walk_at "evs"
      refine ⟨_, _, _, _, rfl, by simp [fl], fm.snoc (by lia) (by (clear hz; lia)), by lia, by lia, ?_⟩
      rw [tx, ty, val_append, val_one, fl, Int.pow_succ, ← hz]
      grind
    · walk_at "evs"
      refine both_dec (fun hc => by (exfalso; clear hz; lia)) (fun _ => ?_)
      walk_at "evs"
      walk_at "app"; walk_at "evs"
      refine both_dec (fun hc => by (exfalso; clear hz; lia)) (fun _ => ?_)
      walk_at "evs"
      refine ⟨_, rfl, rfl, by lia, ?_⟩
      walk_at "evs"
      refine ⟨_, _, _, _, rfl, by simp [fl], fm.snoc (by (clear hz; omega)) (by lia), by lia, by lia, ?_⟩
      rw [tx, ty, val_append, val_one, fl, Int.pow_succ, ← hz]
      grind
  · rintro _ ⟨f, c, o, o2, rfl, fl, fm, c0, c1, hv⟩
    rw [List.take_length, List.take_of_length_le hyl, va, vb] at hv
    have pp := powpos (B := 2 ^ W) (by (clear hB; lia)) xs.length
    have hlt := val_lt (B := 2 ^ W) (by (clear hB; lia)) fm
    rw [fl] at hlt
    have : c = 0 := by
      rcases Int.lt_or_le 0 c with q | q
      · have : c = 1 := by lia
        subst this
        (exfalso; lia)
      · lia
    subst this
    walk_at "evs"
    refine U.call (by assumption) (by walk_at "mem") (g_normal P) (f_normal P) ?_; walk_at "evs"
    walk_at "frz"
    walk_at "evs"
    refine CallK.pure (by assumption) (normal_c P f (by lia)) (by lia) (by simp) ?_
    walk_at "evs"
    refine ⟨.inl ?_, by simp⟩
    have := norm_dg (B := 2 ^ W) hB (xs := f) (n := a - b) (by rw [castB]; exact fm) (by rw [castB]; lia)
    rw [this]
end

section -- Pc2
inductive JAddLimb (xs : List Int) (W : Nat) (k : Nat) (σ : St) : Prop where
  | mk (f : List Int) (c : Int) (o : Option V) (e0 : σ = ⟨[some (.d (Li xs)), some (.d (.int c)), some (.d (.int W)), some (.mu 0), some (.d (.int (2 ^ W - 1))), o], [some (f.map D.int)]⟩) (e1 : f.length = k) (e2 : Lm (2 ^ W) f) (e3 : 0 ≤ c) (e4 : c ≤ 1) (e5 : val (2 ^ W) f + (2 ^ W) ^ k * c = val (2 ^ W) (xs.take k) + 1)
theorem add_limb_c {G : Gl} (P : Pg G) {W : Nat} (hW : 1 ≤ W) (hW2 : W ≤ 12) (a : Nat) (ha : (dg (2 ^ W) a).length ≤ 1000) :
    Fn G 1 86 [.d (Li (dg (2 ^ W) a)), .d (.int 1), .d (.int W)] [] (Li (dg (2 ^ W) (a + 1))) [] := by
  have hB := base_two hW
  have ma := lm_dg hB a
  have va := val_dg hB a
  have ga := dg_ge hB a
  have hBp := two_le hW
  rw [castB] at ma va ga
  generalize hxs : dg (2 ^ W) a = xs at *
  refine Fn.here P 4 rfl rfl [(S "a", false), (S "limb", false), (S "w", false), (S "found", false), (S "mask", false), (S "one", false)] [] 3 [S "a", S "limb", S "w"] (fun _ _ _ _ _ _ => rfl) (by decide +kernel) rfl (by decide) rfl rfl rfl (by decide +kernel) rfl rfl rfl rfl ?_
  intro C H
  walk_at "evs"
  refine U.swap2 (by assumption) (by walk_at "at") (by walk_at "at") ?_; walk_at "evs"
  refine Ev.fresh (EvF.nil ?_); walk_at "evs"
  refine ⟨_, _, rfl, ?_⟩
  walk_at "evs"
  refine U.for (by assumption) (by walk_at "at") ?_
  refine EvI.list H.ok ?_
  walk_at "evs"
  refine ⟨_, rfl, ?_⟩
  refine ForK.ints (JAddLimb xs W) ⟨[], 1, none, rfl, rfl, Lm.nil _, by lia, by lia, by simp [val]⟩ ?_ ?_
  · rintro k _ hk ⟨f, c, o, rfl, fl, fm, c0, c1, hv⟩
    walk_at "evs"
    walk_at "app"; walk_at "evs"
    refine ⟨_, rfl, rfl, by lia, ?_⟩
    walk_at "evs"
    have hx1 := ma.get hk
    have hc := carry_ok (B := 2 ^ W) (by (clear hB; lia)) c0 c1 (x := xs.getD k 0) (by lia) (by (clear hB hBp; lia))
    refine ⟨_, _, _, rfl, by simp [fl], fm.push (by (clear hB; lia)), hc.1, hc.2, ?_⟩
    rw [push_step fl hv, val_take (by (omega))]; grind
  · rintro _ ⟨f, c, o, rfl, fl, fm, c0, c1, hv⟩
    rw [List.take_length, va] at hv
    walk_at "evs"
    first | refine both_dec (fun hc => ?_) (fun hc => ?_) | refine both_eq (fun hc => ?_) (fun hc => ?_) | refine both_ne (fun hc => ?_) (fun hc => ?_) | refine ⟨fun hc => ?_, fun hc => ?_⟩
    · have : c = 1 := by lia
      subst this
      walk_at "evs"
      walk_at "app"; walk_at "evs"
      refine ⟨_, rfl, rfl, by lia, ?_⟩
      walk_at "evs"
      refine ⟨.inl ?_, by simp⟩
      congr 3
      have := dg_of (B := 2 ^ W) hB (xs := f ++ [1]) (n := a + 1) (by rw [castB]; exact fm.snoc (by lia) (by (clear hB; lia))) (by simp) (by rw [castB, val_append, val_one, fl, hv]; lia)
      rw [← this]
    · have : c = 0 := by lia
      subst this
      walk_at "evs"
      refine ⟨.inl ?_, by simp⟩
      congr 3
      have := dg_of_ge (B := 2 ^ W) hB (xs := f) (n := a + 1) (by rw [castB]; exact fm) (by rw [castB, fl]; lia) (by rw [castB]; lia)
      rw [← this]
end

section -- Pc3
inductive JDivLimb (xs : List Int) (d W : Nat) (k : Nat) (σ : St) : Prop where
  | mk (f : List Int) (r : Int) (o : Option V) (e0 : σ = ⟨[some (.d (Li xs)), some (.d (.int d)), some (.d (.int W)), some (.mu 0), some (.d (.int r)), o], [some (f.map D.int)]⟩) (e1 : f.length = xs.length) (e2 : Lm (2 ^ W) f) (e3 : 0 ≤ r) (e4 : r < d) (e5 : val (2 ^ W) (f.drop (xs.length - k)) * d + r = val (2 ^ W) (xs.drop (xs.length - k)))
theorem divrem_limb_c {G : Gl} (P : Pg G) {W : Nat} (hW : 1 ≤ W) (hW2 : W ≤ 12) (a d : Nat) (ha : (dg (2 ^ W) a).length ≤ 1000) (hd0 : 0 < d) (hd1 : d < 2 ^ W) :
    Fn G 2 93 [.d (Li (dg (2 ^ W) a)), .d (.int d), .d (.int W)] [] (.tup [Li (dg (2 ^ W) (a / d)), .int ((a % d : Nat))]) [] := by
  have hB := base_two hW
  have ma := lm_dg hB a
  have va := val_dg hB a
  have ga := dg_ge hB a
  have hBp := two_le hW
  have hBs := pow_small hW2
  have hdB : (d : Int) < 2 ^ W := by rw [← castB]; lia
  rw [castB] at ma va ga
  generalize hxs : dg (2 ^ W) a = xs at *
  refine Fn.here P 5 rfl rfl [(S "a", false), (S "limb", false), (S "w", false), (S "found", false), (S "rest", false), (S "at", false)] [S "DivisionByZero", S "len", S "range", S "normal"] 3 [S "a", S "limb", S "w"] (fun _ _ _ _ _ _ => rfl) (by decide +kernel) rfl (by decide) rfl rfl rfl (by decide +kernel) rfl rfl rfl rfl ?_
  intro C H
  walk_at "evs"
  refine both_eq (fun hc => by (exfalso; lia)) (fun _ => ?_)
  walk_at "evs"
  refine U.swap2 (by assumption) (by walk_at "at") (by walk_at "at") ?_; walk_at "evs"
  refine U.callB (by assumption) (by walk_at "mem") (b_len P) (.builtin _) ?_; walk_at "evs"; refine CallK.lenLi ?_ (by lia); walk_at "evs"
  refine ⟨_, rfl, by lia, ?_⟩
  walk_at "evs"
  refine ⟨_, _, rfl, ?_⟩
  walk_at "evs"
  refine U.for (by assumption) (by walk_at "at") ?_
  refine U.rangeDown (by assumption) (by walk_at "mem") (b_range P) ?_; walk_at "evs"
  refine U.callB (by assumption) (by walk_at "mem") (b_len P) (.builtin _) ?_; walk_at "evs"; refine CallK.lenLi ?_ (by lia); walk_at "evs"
  refine ⟨_, rfl, by lia, by lia, ?_⟩
  refine ForK.rng (JDivLimb xs d W) ⟨_, _, _, rfl, by simp, Lm.rep (by (clear hB; lia)), by lia, by (clear hd0; lia), ?_⟩ ?_ ?_
  · rw [Nat.sub_zero, List.drop_length, List.drop_of_length_le (by simp)]; simp [val]
  · rintro k _ hk ⟨f, r, o, rfl, fl, fm, r0, r1, hv⟩
    have e : ((xs.length : Int) - 1 + k * -1) = ((xs.length - (k + 1) : Nat) : Int) := by lia
    rw [e]
    have e2 : xs.length - k = xs.length - (k + 1) + 1 := by lia
    rw [e2] at hv
    have hi : xs.length - (k + 1) < xs.length := by lia
    generalize hie : xs.length - (k + 1) = i at *
    have hx1 := ma.get hi
    have hrx : 0 ≤ r * 2 ^ W := Int.mul_nonneg r0 (by lia)
    have hrx2 : (r + 1) * 2 ^ W ≤ d * 2 ^ W := Int.mul_le_mul_of_nonneg_right (by lia) (by lia)
    rw [Int.add_mul, Int.one_mul] at hrx2
    walk_at "evs"
    refine BinK.shlW (by lia) (by lia) ?_
    walk_at "evs"
    refine U.sub (xs := xs) .d (by (clear e hie; lia)) (by (clear e hie; lia)) (by lia) ?_; walk_at "evs"
    rw [Int.toNat_natCast]
    refine BinK.orlow hx1.1 hx1.2 ?_
    walk_at "evs"
    walk_at "seti"; walk_at "evs"
    refine BinK.fdiv (by (clear hd0; lia)) (by lia) ?_
    refine ⟨_, rfl, rfl, ?_⟩
    walk_at "evs"
    refine ⟨_, rfl, by (clear e hie; lia), by lia, rfl, ?_⟩
    walk_at "evs"
    refine AugK.mod (by (clear hd0; lia)) ?_
    walk_at "evs"
    have q0 : 0 ≤ (r * 2 ^ W + xs.getD i 0) / d := Int.ediv_nonneg (by lia) (by (clear hd0; lia))
    have q1 : (r * 2 ^ W + xs.getD i 0) / d < 2 ^ W := Int.ediv_lt_of_lt_mul (by (clear hd0; lia)) (by have : (2 : Int) ^ W * d = d * 2 ^ W := Int.mul_comm _ _; lia)
    refine ⟨_, _, _, rfl, by simp [fl], fm.set q0 q1, Int.emod_nonneg _ (by (clear hd0; omega)), Int.emod_lt_of_pos _ (by (clear hd0; lia)), ?_⟩
    rw [hie, drop_set (by (clear e hie; lia)), val, val_drop' (xs := xs) (k := i), ← hv]
    have := Int.emod_add_mul_ediv (r * 2 ^ W + xs.getD i 0) d
    grind
  · rintro _ ⟨f, r, o, rfl, fl, fm, r0, r1, hv⟩
    have e : xs.length - ((xs.length : Int) - 1 + 1).toNat = 0 := by lia
    rw [e] at hv
    simp only [List.drop_zero] at hv
    rw [va] at hv
    have hq : (a : Int) / d = val (2 ^ W) f ∧ (a : Int) % d = r := (Int.ediv_emod_unique (by (clear hd0; lia))).mpr ⟨by rw [← hv, Int.mul_comm]; lia, r0, r1⟩
    walk_at "evs"
    refine U.call (by assumption) (by walk_at "mem") (g_normal P) (f_normal P) ?_; walk_at "evs"
    walk_at "frz"
    walk_at "evs"
    refine CallK.pure (by assumption) (normal_c P f (by lia)) (by lia) (by simp) ?_
    walk_at "evs"
    refine ⟨[_, _], rfl, by simp, .inl ?_, by simp⟩
    have := norm_dg (B := 2 ^ W) hB (xs := f) (n := a / d) (by rw [castB]; exact fm) (by rw [castB, ← hq.1]; simp)
    rw [this, ← hq.2]
    simp
end

section -- Pc4
inductive JShl (xs : List Int) (n W : Nat) (k : Nat) (σ : St) : Prop where
  | mk (f : List Int) (c : Int) (o : Option V) (e0 : σ = ⟨[some (.d (Li xs)), some (.d (.int n)), some (.d (.int W)), some (.d (.int 0)), some (.d (.int n)), some (.mu 0), some (.d (.int c)), some (.d (.int (2 ^ W - 1))), o], [some (f.map D.int)]⟩) (e1 : f.length = k) (e2 : Lm (2 ^ W) f) (e3 : 0 ≤ c) (e4 : c < 2 ^ n) (e5 : val (2 ^ W) f + (2 ^ W) ^ k * c = val (2 ^ W) (xs.take k) * 2 ^ n)
theorem shift_left_c {G : Gl} (P : Pg G) {W : Nat} (hW : 1 ≤ W) (hW2 : W ≤ 12) (a n : Nat) (hn : n < W) (ha : (dg (2 ^ W) a).length ≤ 1000) :
    Fn G 1 100 [.d (Li (dg (2 ^ W) a)), .d (.int n), .d (.int W)] [] (Li (dg (2 ^ W) (a * 2 ^ n))) [] := by
  have hB := base_two hW
  have ma := lm_dg hB a
  have va := val_dg hB a
  have ga := dg_ge hB a
  have hBp := two_le hW
  have hBs := pow_small hW2
  have hnp : (0 : Int) < 2 ^ n := twoPos n
  have hnB : (2 : Int) ^ n ≤ 2 ^ W := powle (by decide) (by lia)
  have hz := @dg_nil (2 ^ W) a hB
  rw [castB] at ma va ga
  generalize hxs : dg (2 ^ W) a = xs at *
  refine Fn.here P 6 rfl rfl [(S "a", false), (S "n", false), (S "w", false), (S "spots", false), (S "few", false), (S "found", false), (S "carry", false), (S "mask", false), (S "one", false)] [S "len"] 6 [S "a", S "n", S "w"] (fun _ _ _ _ _ _ => rfl) (by decide +kernel) rfl (by decide) rfl rfl rfl (by decide +kernel) rfl rfl rfl rfl ?_
  intro C H
  walk_at "evs"
  refine U.callB (by assumption) (by walk_at "mem") (b_len P) (.builtin _) ?_; walk_at "evs"; refine CallK.lenLi ?_ (by lia); walk_at "evs"
  first | refine both_dec (fun hc => ?_) (fun hc => ?_) | refine both_eq (fun hc => ?_) (fun hc => ?_) | refine both_ne (fun hc => ?_) (fun hc => ?_) | refine ⟨fun hc => ?_, fun hc => ?_⟩
  · have : a = 0 := hz.mp (List.eq_nil_of_length_eq_zero (by lia))
    subst this
    walk_at "evs"
    refine Ev.frozen (EvF.nil ?_)
    refine ⟨.inl ?_, by simp⟩
    rw [Nat.zero_mul, dg_zero]; rfl
  walk_at "evs"
  refine U.swap2 (by assumption) (by walk_at "at") (by walk_at "at") ?_; walk_at "evs"
  refine BinK.fdiv (by lia) (by lia) ?_
  walk_at "evs"
  refine BinK.mod (by lia) ?_
  have e1 : (n : Int) / W = 0 := Int.ediv_eq_zero_of_lt (by lia) (by lia)
  have e2 : (n : Int) % W = n := Int.emod_eq_of_lt (by lia) (by lia)
  rw [e1, e2]
  walk_at "evs"
  refine ⟨_, _, rfl, ?_⟩
  walk_at "evs"
  refine U.swap3 (by assumption) (by walk_at "at") (by walk_at "at") (by walk_at "at") ?_; walk_at "evs"
  refine ⟨0, rfl, by lia, ?_⟩
  walk_at "evs"
  refine ⟨_, _, _, rfl, ?_⟩
  walk_at "evs"
  refine U.for (by assumption) (by walk_at "at") ?_
  refine EvI.list H.ok ?_
  walk_at "evs"
  refine ⟨_, rfl, ?_⟩
  refine ForK.ints (JShl xs n W) ⟨[], 0, none, rfl, rfl, Lm.nil _, by lia, by (omega), by simp [val]⟩ ?_ ?_
  · rintro k _ hk ⟨f, c, o, rfl, fl, fm, c0, c1, hv⟩
    have hx1 := ma.get hk
    walk_at "evs"
    refine BinK.shlW (by lia) (by lia) ?_
    refine AugK.orlow' (by (omega)) (by (omega)) ?_
    walk_at "evs"
    walk_at "app"; walk_at "evs"
    refine ⟨_, rfl, rfl, by lia, ?_⟩
    walk_at "evs"
    have h0 : 0 ≤ xs.getD k 0 * 2 ^ n := Int.mul_nonneg hx1.1 (by lia)
    have h1 : (xs.getD k 0 + 1) * 2 ^ n ≤ 2 ^ W * 2 ^ n := Int.mul_le_mul_of_nonneg_right (by lia) (by lia)
    rw [Int.add_mul, Int.one_mul] at h1
    refine ⟨_, _, _, rfl, by simp [fl], fm.push (by (clear hB; lia)), Int.ediv_nonneg (by lia) (by lia), Int.ediv_lt_of_lt_mul (by (clear hB; lia)) (by have : (2 : Int) ^ n * 2 ^ W = 2 ^ W * 2 ^ n := Int.mul_comm _ _; lia), ?_⟩
    rw [push_step fl hv, val_take (by (omega))]; grind
  · rintro _ ⟨f, c, o, rfl, fl, fm, c0, c1, hv⟩
    rw [List.take_length, va] at hv
    have hcast : ((a * 2 ^ n : Nat) : Int) = a * 2 ^ n := by push_cast; rfl
    walk_at "evs"
    first | refine both_dec (fun hc => ?_) (fun hc => ?_) | refine both_eq (fun hc => ?_) (fun hc => ?_) | refine both_ne (fun hc => ?_) (fun hc => ?_) | refine ⟨fun hc => ?_, fun hc => ?_⟩
    · walk_at "evs"
      walk_at "app"; walk_at "evs"
      refine ⟨_, rfl, rfl, by lia, ?_⟩
      walk_at "evs"
      refine ⟨.inl ?_, by simp⟩
      congr 3
      have := dg_of (B := 2 ^ W) hB (xs := f ++ [c]) (n := a * 2 ^ n) (by rw [castB]; exact fm.snoc (by (clear hc; omega)) (by lia)) (by simp; lia) (by rw [castB, val_append, val_one, fl, hv, hcast])
      rw [← this]
    · have : c = 0 := by lia
      subst this
      walk_at "evs"
      refine ⟨.inl ?_, by simp⟩
      congr 3
      have hge : (a : Int) * 1 ≤ a * 2 ^ n := Int.mul_le_mul_of_nonneg_left (by lia) (by lia)
      have := dg_of_ge (B := 2 ^ W) hB (xs := f) (n := a * 2 ^ n) (by rw [castB]; exact fm) (by rw [castB, fl]; lia) (by rw [castB, hcast]; lia)
      rw [← this]
end

section -- Pc5
theorem shr_step {W n : Nat} (hn : n < W) (x y V : Int) (x0 : 0 ≤ x) (x1 : x < 2 ^ W) :
    (x + 2 ^ W * (y + 2 ^ W * V)) / 2 ^ n = (x / 2 ^ n + y * 2 ^ (W - n)) % 2 ^ W + 2 ^ W * ((y + 2 ^ W * V) / 2 ^ n) ∧ x / 2 ^ n < 2 ^ (W - n) ∧ 0 ≤ x / 2 ^ n := by
  have hnp : (0 : Int) < 2 ^ n := twoPos n
  have hWp : (0 : Int) < 2 ^ W := twoPos W
  have hs : (2 : Int) ^ W = 2 ^ n * 2 ^ (W - n) := by rw [← Int.pow_add]; congr 1; lia
  refine ⟨?_, Int.ediv_lt_of_lt_mul hnp (by rw [Int.mul_comm, ← hs]; exact x1), Int.ediv_nonneg x0 (by lia)⟩
  have e1 : (x + 2 ^ W * (y + 2 ^ W * V)) / 2 ^ n = x / 2 ^ n + 2 ^ (W - n) * (y + 2 ^ W * V) := by
    have : 2 ^ W * (y + 2 ^ W * V) = 2 ^ n * (2 ^ (W - n) * (y + 2 ^ W * V)) := by rw [← Int.mul_assoc, ← hs]
    rw [this, Int.add_mul_ediv_left _ _ (by lia)]
  have e2 := Int.emod_add_mul_ediv (x / 2 ^ n + 2 ^ (W - n) * (y + 2 ^ W * V)) (2 ^ W)
  have e3 : (x / 2 ^ n + 2 ^ (W - n) * (y + 2 ^ W * V)) % 2 ^ W = (x / 2 ^ n + y * 2 ^ (W - n)) % 2 ^ W := by
    have : x / 2 ^ n + 2 ^ (W - n) * (y + 2 ^ W * V) = x / 2 ^ n + y * 2 ^ (W - n) + 2 ^ W * (2 ^ (W - n) * V) := by grind
    rw [this, Int.add_mul_emod_self_left]
  have e4 : (x / 2 ^ n + 2 ^ (W - n) * (y + 2 ^ W * V)) / 2 ^ W = (y + 2 ^ W * V) / 2 ^ n := by
    rw [← e1, Int.ediv_ediv_of_nonneg (by lia), Int.mul_comm (2 ^ n), ← Int.ediv_ediv_of_nonneg (by lia), Int.add_mul_ediv_left _ _ (by (clear hs; lia)), Int.ediv_eq_zero_of_lt x0 x1, Int.zero_add]
  rw [e1]
  rw [e3, e4] at e2
  (clear e1; lia)
inductive JShr (xs : List Int) (n W a : Nat) (k : Nat) (σ : St) : Prop where
  | mk (f : List Int) (o o2 : Option V) (e0 : σ = ⟨[some (.d (Li xs)), some (.d (.int n)), some (.d (.int W)), some (.d (.int 0)), some (.d (.int n)), some (.mu 0), some (.d (.int (2 ^ W - 1))), o, o2], [some (f.map D.int)]⟩) (e1 : f.length = k) (e2 : Lm (2 ^ W) f) (e3 : val (2 ^ W) f + (2 ^ W) ^ k * (val (2 ^ W) (xs.drop k) / 2 ^ n) = a / 2 ^ n)
theorem shift_right_c {G : Gl} (P : Pg G) {W : Nat} (hW : 1 ≤ W) (hW2 : W ≤ 12) (a n : Nat) (hn : n < W) (ha : (dg (2 ^ W) a).length ≤ 1000) :
    Fn G 2 107 [.d (Li (dg (2 ^ W) a)), .d (.int n), .d (.int W)] [] (Li (dg (2 ^ W) (a / 2 ^ n))) [] := by
  have hB := base_two hW
  have ma := lm_dg hB a
  have va := val_dg hB a
  have hBp := two_le hW
  have hBs := pow_small hW2
  rw [castB] at ma va
  generalize hxs : dg (2 ^ W) a = xs at *
  refine Fn.here P 7 rfl rfl [(S "a", false), (S "n", false), (S "w", false), (S "spots", false), (S "few", false), (S "found", false), (S "mask", false), (S "at", false), (S "above", false)] [S "range", S "len", S "normal"] 6 [S "a", S "n", S "w"] (fun _ _ _ _ _ _ => rfl) (by decide +kernel) rfl (by decide) rfl rfl rfl (by decide +kernel) rfl rfl rfl rfl ?_
  intro C H
  walk_at "evs"
  refine U.swap2 (by assumption) (by walk_at "at") (by walk_at "at") ?_; walk_at "evs"
  refine BinK.fdiv (by lia) (by lia) ?_
  walk_at "evs"
  refine BinK.mod (by lia) ?_
  have e1 : (n : Int) / W = 0 := Int.ediv_eq_zero_of_lt (by lia) (by lia)
  have e2 : (n : Int) % W = n := Int.emod_eq_of_lt (by lia) (by lia)
  rw [e1, e2]
  walk_at "evs"
  refine ⟨_, _, rfl, ?_⟩
  walk_at "evs"
  refine U.swap2 (by assumption) (by walk_at "at") (by walk_at "at") ?_; walk_at "evs"
  refine Ev.fresh (EvF.nil ?_); walk_at "evs"
  refine ⟨_, _, rfl, ?_⟩
  walk_at "evs"
  refine U.for (by assumption) (by walk_at "at") ?_
  refine U.range2 (by assumption) (by walk_at "mem") (b_range P) ?_; walk_at "evs"
  refine U.callB (by assumption) (by walk_at "mem") (b_len P) (.builtin _) ?_; walk_at "evs"; refine CallK.lenLi ?_ (by lia); walk_at "evs"
  refine ⟨_, _, rfl, by lia, by lia, by lia, by lia, ?_⟩
  have e : ((xs.length : Int) - 0).toNat = xs.length := by lia
  rw [e]
  refine ForK.rng (JShr xs n W a) ⟨[], none, none, rfl, rfl, Lm.nil _, by simp [val, va]⟩ ?_ ?_
  · rintro k _ hk ⟨f, o, o2, rfl, fl, fm, hv⟩
    have e : (0 + k * 1 : Int) = (k : Nat) := by lia
    rw [e]
    refine Exs.mid (fun σ => σ = ⟨[some (.d (Li xs)), some (.d (.int n)), some (.d (.int W)), some (.d (.int 0)), some (.d (.int n)), some (.mu 0), some (.d (.int (2 ^ W - 1))), some (.d (.int k)), some (.d (.int (xs.getD (k + 1) 0)))], [some (f.map D.int)]⟩) ?_ ?_
    · walk_at "evs"
      refine U.callB (by assumption) (by walk_at "mem") (b_len P) (.builtin _) ?_; walk_at "evs"; refine CallK.lenLi ?_ (by lia); walk_at "evs"
      first | refine both_dec (fun hc => ?_) (fun hc => ?_) | refine both_eq (fun hc => ?_) (fun hc => ?_) | refine both_ne (fun hc => ?_) (fun hc => ?_) | refine ⟨fun hc => ?_, fun hc => ?_⟩
      · walk_at "evs"
        refine U.sub (xs := xs) .d (by lia) (by (clear hk; omega)) (by lia) ?_; walk_at "evs"
        have : ((k : Int) + 1).toNat = k + 1 := by lia
        rw [this]
        exact ⟨rfl, rfl⟩
      · walk_at "evs"
        have : xs.getD (k + 1) 0 = 0 := by rw [List.getD_eq_getElem?_getD, List.getElem?_eq_none (by (clear hk; lia))]; rfl
        rw [this]
        exact ⟨rfl, rfl⟩
    rintro _ rfl
    have hx1 := ma.get hk
    have hy1 := ma.get' (by (clear hB; lia)) (k + 1)
    rw [val_drop' (k := k), val_drop' (k := k + 1)] at hv
    have st := shr_step hn (xs.getD k 0) (xs.getD (k + 1) 0) (val (2 ^ W) (xs.drop (k + 1 + 1))) hx1.1 hx1.2
    rw [st.1] at hv
    walk_at "evs"
    walk_at "app"
    walk_at "evs"
    refine U.sub (xs := xs) .d (by lia) (by lia) (by lia) ?_; walk_at "evs"
    rw [Int.toNat_natCast]
    have e3 : ((W : Int) - n) = ((W - n : Nat) : Int) := by lia
    rw [e3]
    refine BinK.shlW (by lia) (by lia) ?_
    refine BinK.orlow' st.2.2 st.2.1 ?_
    walk_at "evs"
    refine ⟨_, rfl, rfl, by lia, ?_⟩
    walk_at "evs"
    refine ⟨_, _, _, rfl, by simp [fl], fm.push (by (clear hB; lia)), ?_⟩
    rw [val_append, val_one, fl, val_drop' (k := k + 1), ← hv, Int.pow_succ]
    grind
  · rintro _ ⟨f, o, o2, rfl, fl, fm, hv⟩
    rw [List.drop_length, val_nil] at hv
    simp only [Int.zero_ediv, Int.mul_zero, Int.add_zero] at hv
    walk_at "evs"
    refine U.call (by assumption) (by walk_at "mem") (g_normal P) (f_normal P) ?_; walk_at "evs"
    walk_at "frz"
    walk_at "evs"
    refine CallK.pure (by assumption) (normal_c P f (by lia)) (by lia) (by simp) ?_
    walk_at "evs"
    refine ⟨.inl ?_, by simp⟩
    have := norm_dg (B := 2 ^ W) hB (xs := f) (n := a / 2 ^ n) (by rw [castB]; exact fm) (by rw [castB, hv]; push_cast; rfl)
    rw [this]
end

section -- Pd1
theorem ret_of {r r' : D} {σ : St} (h : r' = r) : RetK r [] (.ret (.d r')) σ := ⟨.inl (by rw [h]), by simp⟩
noncomputable abbrev sg (W : Nat) (z : Int) : D := .tup [.bool (decide (z < 0)), Li (dg (2 ^ W) z.natAbs)]
theorem len_ok {W n : Nat} (hW : 1 ≤ W) (h : n < 2 ^ 400) : (dg (2 ^ W) n).length ≤ 1000 := Nat.le_trans (dg_len2 hW h) (by decide)
noncomputable def icmp (x y : Int) : Int := if x < y then -1 else if y < x then 1 else 0
theorem signed_c {G : Gl} (P : Pg G) {W : Nat} (hW : 1 ≤ W) (b : Bool) (n : Nat) (h : n < 2 ^ 400) :
    Fn G 1 128 [.d (.bool b), .d (Li (dg (2 ^ W) n))] [] (sg W (if b then -(n : Int) else n)) [] := by
  have ho := len_ok hW h
  have hz := @dg_nil (2 ^ W) n (base_two hW)
  generalize hxs : dg (2 ^ W) n = xs at *
  cases b with
  | false =>
    refine Fn.here P 10 rfl rfl [(S "is_below", false), (S "nat", false)] [S "len"] 0 [S "is_below", S "nat"] (fun _ _ _ _ _ => rfl) (by decide +kernel) rfl (by decide) rfl rfl rfl (by decide +kernel) rfl rfl rfl rfl ?_
    intro C H
    walk_at "evs"
    refine ⟨[_, _], rfl, by simp, ret_of ?_⟩
    show D.tup _ = D.tup [.bool (decide ((n : Int) < 0)), Li (dg (2 ^ W) (n : Int).natAbs)]
    rw [Int.natAbs_natCast, hxs, decide_eq_false (by lia)]
  | true =>
    refine Fn.here P 10 rfl rfl [(S "is_below", false), (S "nat", false)] [S "len"] 0 [S "is_below", S "nat"] (fun _ _ _ _ _ => rfl) (by decide +kernel) rfl (by decide) rfl rfl rfl (by decide +kernel) rfl rfl rfl rfl ?_
    intro C H
    walk_at "evs"
    refine U.callB (by assumption) (by walk_at "mem") (b_len P) (.builtin _) ?_; walk_at "evs"; refine CallK.lenLi ?_ (by lia); walk_at "evs"
    refine ⟨[_, _], rfl, by simp, ret_of ?_⟩
    show D.tup _ = D.tup [.bool (decide (-(n : Int) < 0)), Li (dg (2 ^ W) (-(n : Int)).natAbs)]
    rw [Int.natAbs_neg, Int.natAbs_natCast, hxs]
    congr 3
    rcases Nat.eq_zero_or_pos n with q | q
    · rw [hz.mpr q]; subst q; rfl
    · have : xs.length ≠ 0 := fun e => by have := hz.mp (List.eq_nil_of_length_eq_zero e); lia
      rw [decide_eq_true (by lia), decide_eq_true (by lia)]
theorem s_neg_c {G : Gl} (P : Pg G) {W : Nat} (hW : 1 ≤ W) (z : Int) (h : z.natAbs < 2 ^ 400) : Fn G 2 135 [.d (sg W z)] [] (sg W (-z)) [] := by
  refine Fn.here P 11 rfl rfl [(S "x", false)] [S "signed"] 0 [S "x"] (fun _ _ _ _ => rfl) (by decide +kernel) rfl (by decide) rfl rfl rfl (by decide +kernel) rfl rfl rfl rfl ?_
  intro C H
  walk_at "evs"
  refine U.call (by assumption) (by walk_at "mem") (g_signed P) (f_signed P) ?_; walk_at "evs"
  refine CallK.pure (by assumption) (signed_c P hW _ _ h) (by lia) (by simp) ?_; walk_at "evs"
  refine ret_of ?_
  congr 1
  by_cases q : z < 0
  · simp [q]; lia
  · simp [q]; lia
theorem s_sign_c {G : Gl} (P : Pg G) {W : Nat} (hW : 1 ≤ W) (z : Int) (h : z.natAbs < 2 ^ 400) : Fn G 1 142 [.d (sg W z)] [] (.int z.sign) [] := by
  have ho := len_ok hW h
  have hz := @dg_nil (2 ^ W) z.natAbs (base_two hW)
  refine Fn.here P 12 rfl rfl [(S "x", false)] [S "len"] 0 [S "x"] (fun _ _ _ _ => rfl) (by decide +kernel) rfl (by decide) rfl rfl rfl (by decide +kernel) rfl rfl rfl rfl ?_
  intro C H
  walk_at "evs"
  refine U.callB (by assumption) (by walk_at "mem") (b_len P) (.builtin _) ?_; walk_at "evs"; refine CallK.lenLi ?_ (by lia); walk_at "evs"
  first | refine both_dec (fun hc => ?_) (fun hc => ?_) | refine both_eq (fun hc => ?_) (fun hc => ?_) | refine both_ne (fun hc => ?_) (fun hc => ?_) | refine ⟨fun hc => ?_, fun hc => ?_⟩
  · have : z = 0 := by
      have := hz.mp (List.eq_nil_of_length_eq_zero (by lia))
      lia
    subst this
    walk_at "evs"
    exact ret_of rfl
  · have : z ≠ 0 := fun e => hc (by rw [hz.mpr (by lia)]; rfl)
    walk_at "evs"
    refine EvB.val ?_
    walk_at "evs"
    first | refine both_dec (fun hc => ?_) (fun hc => ?_) | refine both_eq (fun hc => ?_) (fun hc => ?_) | refine both_ne (fun hc => ?_) (fun hc => ?_) | refine ⟨fun hc => ?_, fun hc => ?_⟩
    · walk_at "evs"
      exact ret_of (by rw [Int.sign_eq_neg_one_of_neg hc])
    · walk_at "evs"
      exact ret_of (by rw [Int.sign_eq_one_of_pos (by lia)])
theorem s_compare_c {G : Gl} (P : Pg G) {W : Nat} (hW : 1 ≤ W) (x y : Int) (hx : x.natAbs < 2 ^ 400) (hy : y.natAbs < 2 ^ 400) : Fn G 2 149 [.d (sg W x), .d (sg W y)] [] (.int (icmp x y)) [] := by
  by_cases q : x < 0 <;> by_cases r : y < 0 <;> simp only [sg, q, r, decide_true, decide_false]
  · refine Fn.here P 13 rfl rfl [(S "x", false), (S "y", false)] [S "compare"] 0 [S "x", S "y"] (fun _ _ _ _ _ => rfl) (by decide +kernel) rfl (by decide) rfl rfl rfl (by decide +kernel) rfl rfl rfl rfl ?_
    intro C H
    walk_at "evs"
    refine both_ff ?_
    walk_at "evs"
    refine EvB.val ?_
    walk_at "evs"
    refine U.call (by assumption) (by walk_at "mem") (g_compare P) (f_compare P) ?_; walk_at "evs"
    refine CallK.pure (by assumption) (compare_c P (base_two hW) _ _ (len_ok hW hy) (len_ok hW hx)) (by lia) (by simp) ?_; walk_at "evs"
    refine ret_of ?_
    unfold icmp cmp
    congr 1
    split <;> split <;> (try split) <;> (try split) <;> lia
  · refine Fn.here P 13 rfl rfl [(S "x", false), (S "y", false)] [S "compare"] 0 [S "x", S "y"] (fun _ _ _ _ _ => rfl) (by decide +kernel) rfl (by decide) rfl rfl rfl (by decide +kernel) rfl rfl rfl rfl ?_
    intro C H
    walk_at "evs"
    refine both_tt ?_
    walk_at "evs"
    refine EvB.val ?_
    walk_at "evs"
    refine ret_of ?_
    rw [icmp, if_pos (by (omega))]
  · refine Fn.here P 13 rfl rfl [(S "x", false), (S "y", false)] [S "compare"] 0 [S "x", S "y"] (fun _ _ _ _ _ => rfl) (by decide +kernel) rfl (by decide) rfl rfl rfl (by decide +kernel) rfl rfl rfl rfl ?_
    intro C H
    walk_at "evs"
    refine both_tt ?_
    walk_at "evs"
    refine EvB.val ?_
    walk_at "evs"
    refine ret_of ?_
    rw [icmp, if_neg (by lia), if_pos (by (omega))]
  · refine Fn.here P 13 rfl rfl [(S "x", false), (S "y", false)] [S "compare"] 0 [S "x", S "y"] (fun _ _ _ _ _ => rfl) (by decide +kernel) rfl (by decide) rfl rfl rfl (by decide +kernel) rfl rfl rfl rfl ?_
    intro C H
    walk_at "evs"
    refine both_ff ?_
    walk_at "evs"
    refine EvB.val ?_
    walk_at "evs"
    refine U.call (by assumption) (by walk_at "mem") (g_compare P) (f_compare P) ?_; walk_at "evs"
    refine CallK.pure (by assumption) (compare_c P (base_two hW) _ _ (len_ok hW hx) (len_ok hW hy)) (by lia) (by simp) ?_; walk_at "evs"
    refine ret_of ?_
    unfold icmp cmp
    congr 1
    split <;> split <;> (try split) <;> (try split) <;> lia
end

section -- Pd2
theorem s_add_c {G : Gl} (P : Pg G) {W : Nat} (hW : 1 ≤ W) (hW2 : W ≤ 12) (x y : Int) (hx : x.natAbs < 2 ^ 300) (hy : y.natAbs < 2 ^ 300) : Fn G 3 156 [.d (sg W x), .d (sg W y), .d (.int W)] [] (sg W (x + y)) [] := by
  have ox := len_ok hW (show x.natAbs < 2 ^ 400 by lia)
  have oy := len_ok hW (show y.natAbs < 2 ^ 400 by lia)
  refine Fn.here P 14 rfl rfl [(S "x", false), (S "y", false), (S "w", false)] [S "signed", S "add", S "compare", S "sub"] 0 [S "x", S "y", S "w"] (fun _ _ _ _ _ _ => rfl) (by decide +kernel) rfl (by decide) rfl rfl rfl (by decide +kernel) rfl rfl rfl rfl ?_
  intro C H
  walk_at "evs"
  refine ⟨fun hc => ?_, fun hc => ?_⟩
  · walk_at "evs"
    refine U.call (by assumption) (by walk_at "mem") (g_signed P) (f_signed P) ?_; walk_at "evs"
    refine U.call (by assumption) (by walk_at "mem") (g_add P) (f_add P) ?_; walk_at "evs"
    refine CallK.pure (by assumption) (add_c P hW hW2 _ _ ox oy) (by lia) (by simp) ?_; walk_at "evs"
    refine CallK.pure (by assumption) (signed_c P hW _ _ (by lia)) (by lia) (by simp) ?_; walk_at "evs"
    refine ret_of ?_
    congr 1
    simp at hc
    by_cases q : x < 0
    · have := hc.mp q; simp [q]; (clear hc; omega)
    · have := fun e => q (hc.mpr e); simp [q]; lia
  · simp at hc
    walk_at "evs"
    refine U.call (by assumption) (by walk_at "mem") (g_compare P) (f_compare P) ?_; walk_at "evs"
    refine CallK.pure (by assumption) (compare_c P (base_two hW) _ _ ox oy) (by lia) (by simp) ?_; walk_at "evs"
    refine both_dec (fun hc2 => ?_) (fun hc2 => ?_)
    · have hlt : x.natAbs < y.natAbs := by unfold cmp at hc2; split at hc2 <;> (try split at hc2) <;> (omega)
      walk_at "evs"
      refine U.call (by assumption) (by walk_at "mem") (g_signed P) (f_signed P) ?_; walk_at "evs"
      refine U.call (by assumption) (by walk_at "mem") (g_sub P) (f_sub P) ?_; walk_at "evs"
      refine CallK.pure (by assumption) (sub_c P hW hW2 _ _ (Nat.le_of_lt hlt) oy ox) (by lia) (by simp) ?_; walk_at "evs"
      refine CallK.pure (by assumption) (signed_c P hW _ _ (by lia)) (by lia) (by simp) ?_; walk_at "evs"
      refine ret_of ?_
      congr 1
      by_cases q : y < 0
      · simp [q] at hc ⊢; lia
      · simp [q] at hc ⊢; lia
    · have hle : y.natAbs ≤ x.natAbs := by unfold cmp at hc2; split at hc2 <;> (try split at hc2) <;> lia
      walk_at "evs"
      refine U.call (by assumption) (by walk_at "mem") (g_signed P) (f_signed P) ?_; walk_at "evs"
      refine U.call (by assumption) (by walk_at "mem") (g_sub P) (f_sub P) ?_; walk_at "evs"
      refine CallK.pure (by assumption) (sub_c P hW hW2 _ _ hle ox oy) (by lia) (by simp) ?_; walk_at "evs"
      refine CallK.pure (by assumption) (signed_c P hW _ _ (by lia)) (by lia) (by simp) ?_; walk_at "evs"
      refine ret_of ?_
      congr 1
      by_cases q : x < 0
      · simp [q] at hc ⊢; lia
      · simp [q] at hc ⊢; lia
theorem s_sub_c {G : Gl} (P : Pg G) {W : Nat} (hW : 1 ≤ W) (hW2 : W ≤ 12) (x y : Int) (hx : x.natAbs < 2 ^ 300) (hy : y.natAbs < 2 ^ 300) : Fn G 4 163 [.d (sg W x), .d (sg W y), .d (.int W)] [] (sg W (x - y)) [] := by
  refine Fn.here P 15 rfl rfl [(S "x", false), (S "y", false), (S "w", false)] [S "s_add", S "s_neg"] 0 [S "x", S "y", S "w"] (fun _ _ _ _ _ _ => rfl) (by decide +kernel) rfl (by decide) rfl rfl rfl (by decide +kernel) rfl rfl rfl rfl ?_
  intro C H
  walk_at "evs"
  refine U.call (by assumption) (by walk_at "mem") (g_s_add P) (f_s_add P) ?_; walk_at "evs"
  refine U.call (by assumption) (by walk_at "mem") (g_s_neg P) (f_s_neg P) ?_; walk_at "evs"
  refine CallK.pure (by assumption) (s_neg_c P hW y (by lia)) (by lia) (by simp) ?_; walk_at "evs"
  refine CallK.pure (by assumption) (s_add_c P hW hW2 x (-y) hx (by (omega))) (by lia) (by simp) ?_; walk_at "evs"
  exact ret_of rfl
theorem s_shift_c {G : Gl} (P : Pg G) {W : Nat} (hW : 2 ≤ W) (hW2 : W ≤ 12) (x : Int) (hx : x.natAbs < 2 ^ 300) : Fn G 2 191 [.d (sg W x), .d (.int 1), .d (.int W)] [] (sg W (2 * x)) [] := by
  have hW1 : 1 ≤ W := by lia
  refine Fn.here P 19 rfl rfl [(S "x", false), (S "n", false), (S "w", false), (S "found", false)] [S "signed", S "shift_left", S "shift_right", S "len", S "low", S "add_limb"] 1 [S "x", S "n", S "w"] (fun _ _ _ _ _ _ => rfl) (by decide +kernel) rfl (by decide) rfl rfl rfl (by decide +kernel) rfl rfl rfl rfl ?_
  intro C H
  walk_at "evs"
  refine both_dec (fun _ => ?_) (fun hc => absurd hc (by decide))
  walk_at "evs"
  refine U.call (by assumption) (by walk_at "mem") (g_signed P) (f_signed P) ?_; walk_at "evs"
  refine U.call (by assumption) (by walk_at "mem") (g_shift_left P) (f_shift_left P) ?_; walk_at "evs"
  refine CallK.pure (by assumption) (shift_left_c P hW1 hW2 _ 1 (by (clear hW1; lia)) (len_ok hW1 (by lia))) (by lia) (by simp) ?_; walk_at "evs"
  refine CallK.pure (by assumption) (signed_c P hW1 _ _ (by lia)) (by lia) (by simp) ?_; walk_at "evs"
  refine ret_of ?_
  congr 1
  by_cases q : x < 0
  · simp [q]; lia
  · simp [q]; lia
theorem s_mul_c {G : Gl} (P : Pg G) {W : Nat} (hW : 1 ≤ W) (x y : Int) (hx : x.natAbs < 2 ^ 100) (hy : y.natAbs < 2 ^ 100)
    (mul : Fn G 2 226 [.d (Li (dg (2 ^ W) x.natAbs)), .d (Li (dg (2 ^ W) y.natAbs)), .d (.int W)] [] (Li (dg (2 ^ W) (x.natAbs * y.natAbs))) []) :
    Fn G 3 170 [.d (sg W x), .d (sg W y), .d (.int W), .d (.val (.ref 226))] [] (sg W (x * y)) [] := by
  have hb : x.natAbs * y.natAbs < 2 ^ 100 * 2 ^ 100 := Nat.mul_lt_mul'' hx hy
  refine Fn.here P 16 rfl rfl [(S "x", false), (S "y", false), (S "w", false), (S "mul", false)] [S "signed"] 0 [S "x", S "y", S "w", S "mul"] (fun _ _ _ _ _ _ _ => rfl) (by decide +kernel) rfl (by decide) rfl rfl rfl (by decide +kernel) rfl rfl rfl rfl ?_
  intro C H
  walk_at "evs"
  refine U.call (by assumption) (by walk_at "mem") (g_signed P) (f_signed P) ?_; walk_at "evs"
  refine U.callL (by assumption) (by walk_at "at") rfl (f_mul_school P) ?_; walk_at "evs"
  refine CallK.pure (by assumption) (mul) (by lia) (by simp) ?_; walk_at "evs"
  refine CallK.pure (by assumption) (signed_c P hW _ _ (by lia)) (by lia) (by simp) ?_; walk_at "evs"
  refine ret_of ?_
  congr 1
  have e : ((x.natAbs * y.natAbs : Nat) : Int) = x.natAbs * y.natAbs := by push_cast; rfl
  rw [e]
  by_cases q : x < 0 <;> by_cases r : y < 0 <;> simp only [q, r, decide_true, decide_false, bne_self_eq_false, Bool.false_eq_true, if_false, if_true, Bool.true_bne, Bool.false_bne, Bool.not_false, Bool.not_true]
  · rw [show (x.natAbs : Int) = -x by lia, show (y.natAbs : Int) = -y by lia, Int.neg_mul_neg]
  · rw [show (x.natAbs : Int) = -x by lia, show (y.natAbs : Int) = y by lia, Int.neg_mul, Int.neg_neg]
  · rw [show (x.natAbs : Int) = x by lia, show (y.natAbs : Int) = -y by lia, Int.mul_neg, Int.neg_neg]
  · rw [show (x.natAbs : Int) = x by lia, show (y.natAbs : Int) = y by lia]
end

section -- Pd3
theorem tdiv_c {G : Gl} (P : Pg G) {W : Nat} (hW : 1 ≤ W) (x y : Int) (hx : x.natAbs < 2 ^ 200) (hy : y.natAbs < 2 ^ 200) (hy0 : 0 < y)
    (div : Fn G 4 268 [.d (Li (dg (2 ^ W) x.natAbs)), .d (Li (dg (2 ^ W) y.natAbs)), .d (.int W)] [] (.tup [Li (dg (2 ^ W) (x.natAbs / y.natAbs)), Li (dg (2 ^ W) (x.natAbs % y.natAbs))]) []) :
    Fn G 5 177 [.d (sg W x), .d (sg W y), .d (.int W), .d (.val (.ref 268))] [] (.tup [sg W (if decide (x < 0) then -((x.natAbs / y.natAbs : Nat) : Int) else (x.natAbs / y.natAbs : Nat)), sg W (if decide (x < 0) then -((x.natAbs % y.natAbs : Nat) : Int) else (x.natAbs % y.natAbs : Nat))]) [] := by
  have oy := len_ok hW (show y.natAbs < 2 ^ 400 by lia)
  have hz := @dg_nil (2 ^ W) y.natAbs (base_two hW)
  have b1 : x.natAbs / y.natAbs ≤ x.natAbs := Nat.div_le_self _ _
  have b2 : x.natAbs % y.natAbs ≤ x.natAbs := Nat.mod_le _ _
  refine Fn.here P 17 rfl rfl [(S "x", false), (S "y", false), (S "w", false), (S "divrem", false), (S "quotient", false), (S "rest", false)] [S "len", S "DivisionByZero", S "signed"] 2 [S "x", S "y", S "w", S "divrem"] (fun _ _ _ _ _ _ _ => rfl) (by decide +kernel) rfl (by decide) rfl rfl rfl (by decide +kernel) rfl rfl rfl rfl ?_
  intro C H
  walk_at "evs"
  refine U.callB (by assumption) (by walk_at "mem") (b_len P) (.builtin _) ?_; walk_at "evs"; refine CallK.lenLi ?_ (by lia); walk_at "evs"
  refine both_eq (fun hc => ?_) (fun _ => ?_)
  · have := hz.mp (List.eq_nil_of_length_eq_zero (by lia))
    (exfalso; lia)
  walk_at "evs"
  refine U.untup (by assumption) (.cons (by walk_at "at") (.cons (by walk_at "at") (.nil))) ?_
  refine U.callL (by assumption) (by walk_at "at") rfl (f_divrem_school P) ?_; walk_at "evs"
  refine CallK.pure (by assumption) (div) (by lia) (by simp) ?_; walk_at "evs"
  refine ⟨_, _, rfl, .tup _, rfl, ?_⟩
  walk_at "evs"
  refine U.call (by assumption) (by walk_at "mem") (g_signed P) (f_signed P) ?_; walk_at "evs"
  refine CallK.pure (by assumption) (signed_c P hW _ _ (by lia)) (by lia) (by simp) ?_; walk_at "evs"
  refine U.call (by assumption) (by walk_at "mem") (g_signed P) (f_signed P) ?_; walk_at "evs"
  refine CallK.pure (by assumption) (signed_c P hW _ _ (by lia)) (by lia) (by simp) ?_; walk_at "evs"
  refine ⟨[_, _], rfl, by simp, ret_of ?_⟩
  have y0 : (decide (x < 0) != decide (y < 0)) = decide (x < 0) := by rw [decide_eq_false (show ¬ y < 0 by lia)]; simp
  rw [y0]
theorem fdiv_c {G : Gl} (P : Pg G) {W : Nat} (hW : 1 ≤ W) (hW2 : W ≤ 12) (x y : Int) (hx : x.natAbs < 2 ^ 200) (hy : y.natAbs < 2 ^ 200) (hy0 : 0 < y)
    (div : Fn G 4 268 [.d (Li (dg (2 ^ W) x.natAbs)), .d (Li (dg (2 ^ W) y.natAbs)), .d (.int W)] [] (.tup [Li (dg (2 ^ W) (x.natAbs / y.natAbs)), Li (dg (2 ^ W) (x.natAbs % y.natAbs))]) []) :
    Fn G 6 184 [.d (sg W x), .d (sg W y), .d (.int W), .d (.val (.ref 268))] [] (.tup [sg W (x / y), sg W (x % y)]) [] := by
  have td := tdiv_c P hW x y hx hy hy0 div
  have b1 : x.natAbs / y.natAbs ≤ x.natAbs := Nat.div_le_self _ _
  have b2 : x.natAbs % y.natAbs ≤ x.natAbs := Nat.mod_le _ _
  have b3 : x.natAbs % y.natAbs < y.natAbs := Nat.mod_lt _ (by (omega))
  have b4 := Nat.mod_add_div x.natAbs y.natAbs
  have or := len_ok hW (show x.natAbs % y.natAbs < 2 ^ 400 by (clear b3; lia))
  have oq := len_ok hW (show x.natAbs / y.natAbs < 2 ^ 400 by lia)
  have hz := @dg_nil (2 ^ W) (x.natAbs % y.natAbs) (base_two hW)
  generalize x.natAbs / y.natAbs = q at *
  generalize x.natAbs % y.natAbs = r at *
  have yn : (y.natAbs : Int) = y := by (clear hz b3; lia)
  have b5 : (r : Int) + y * q = x.natAbs := by rw [← b4, Int.natCast_add, Int.natCast_mul, yn]
  have y0 : decide (y < 0) = false := decide_eq_false (by (clear yn; lia))
  rcases Int.lt_or_le x 0 with hs | hs
  · rw [decide_eq_true hs] at td
    simp only [if_true] at td
    have q0 : (-(q : Int)).natAbs = q := by lia
    have r0 : (-(r : Int)).natAbs = r := by lia
    have or' : (dg (2 ^ W) (-(r : Int)).natAbs).length ≤ 1000 := by rw [r0]; exact or
    have hz' : dg (2 ^ W) (-(r : Int)).natAbs = [] ↔ r = 0 := by rw [r0]; exact hz
    refine Fn.here P 18 rfl rfl [(S "x", false), (S "y", false), (S "w", false), (S "divrem", false), (S "quotient", false), (S "rest", false)] [S "tdiv", S "len", S "add_limb", S "s_add"] 2 [S "x", S "y", S "w", S "divrem"] (fun _ _ _ _ _ _ _ => rfl) (by decide +kernel) rfl (by decide) rfl rfl rfl (by decide +kernel) rfl rfl rfl rfl ?_
    intro C H
    walk_at "evs"
    refine U.untup (by assumption) (.cons (by walk_at "at") (.cons (by walk_at "at") (.nil))) ?_
    refine U.call (by assumption) (by walk_at "mem") (g_tdiv P) (f_tdiv P) ?_; walk_at "evs"
    refine CallK.pure (by assumption) (td) (by lia) (by simp) ?_; walk_at "evs"
    refine ⟨_, _, rfl, .tup _, rfl, ?_⟩
    walk_at "evs"
    refine U.callB (by assumption) (by walk_at "mem") (b_len P) (.builtin _) ?_; walk_at "evs"; refine CallK.lenLi ?_ (by (clear r0; lia)); walk_at "evs"
    rcases Nat.eq_zero_or_pos r with z | z
    · have z0 : (dg (2 ^ W) (-(r : Int)).natAbs).length = 0 := by rw [hz'.mpr z]; rfl
      refine both_dec (fun hc => by (exfalso; lia)) (fun _ => ?_)
      refine both_ff ?_
      walk_at "evs"
      refine ⟨[_, _], rfl, by simp, ret_of ?_⟩
      have : x / y = -(q : Int) ∧ x % y = 0 := (Int.ediv_emod_unique hy0).mpr ⟨by rw [Int.mul_neg]; (clear b1; lia), by lia, by (omega)⟩
      rw [this.1, this.2, z]; rfl
    · have : (dg (2 ^ W) (-(r : Int)).natAbs).length ≠ 0 := fun e => by have := hz'.mp (List.eq_nil_of_length_eq_zero e); lia
      refine both_dec (fun _ => ?_) (fun hc => by (omega))
      walk_at "evs"
      rw [y0, decide_eq_true hs]
      refine both_tt ?_
      walk_at "evs"
      refine U.call (by assumption) (by walk_at "mem") (g_add_limb P) (f_add_limb P) ?_; walk_at "evs"
      refine CallK.pure (by assumption) (add_limb_c P hW hW2 _ (by rw [q0]; exact oq)) (by lia) (by simp) ?_; walk_at "evs"
      refine ⟨[_, _], rfl, by simp, ?_⟩
      walk_at "evs"
      refine U.call (by assumption) (by walk_at "mem") (g_s_add P) (f_s_add P) ?_; walk_at "evs"
      refine CallK.pure (by assumption) (s_add_c P hW hW2 (-(r : Int)) y (by lia) (by lia)) (by lia) (by simp) ?_; walk_at "evs"
      refine ⟨[_, _], rfl, by simp, ret_of ?_⟩
      have : x / y = -((q : Int) + 1) ∧ x % y = -(r : Int) + y := (Int.ediv_emod_unique hy0).mpr ⟨by rw [Int.mul_neg, Int.mul_add]; (clear hz' hz; lia), by lia, by lia⟩
      rw [this.1, this.2]
      rw [q0]
      have e1 : (-((q : Int) + 1)).natAbs = q + 1 := by lia
      show D.tup _ = D.tup [D.tup [.bool (decide (-((q : Int) + 1) < 0)), Li (dg (2 ^ W) (-((q : Int) + 1)).natAbs)], _]
      rw [e1, decide_eq_true (show -((q : Int) + 1) < 0 by lia)]
  · rw [decide_eq_false (by lia)] at td
    simp only [Bool.false_eq_true, if_false] at td
    refine Fn.here P 18 rfl rfl [(S "x", false), (S "y", false), (S "w", false), (S "divrem", false), (S "quotient", false), (S "rest", false)] [S "tdiv", S "len", S "add_limb", S "s_add"] 2 [S "x", S "y", S "w", S "divrem"] (fun _ _ _ _ _ _ _ => rfl) (by decide +kernel) rfl (by decide) rfl rfl rfl (by decide +kernel) rfl rfl rfl rfl ?_
    intro C H
    walk_at "evs"
    refine U.untup (by assumption) (.cons (by walk_at "at") (.cons (by walk_at "at") (.nil))) ?_
    refine U.call (by assumption) (by walk_at "mem") (g_tdiv P) (f_tdiv P) ?_; walk_at "evs"
    refine CallK.pure (by assumption) (td) (by lia) (by simp) ?_; walk_at "evs"
    refine ⟨_, _, rfl, .tup _, rfl, ?_⟩
    walk_at "evs"
    have or' : (dg (2 ^ W) (r : Int).natAbs).length ≤ 1000 := by rw [Int.natAbs_natCast]; exact or
    refine U.callB (by assumption) (by walk_at "mem") (b_len P) (.builtin _) ?_; walk_at "evs"; refine CallK.lenLi ?_ (by lia); walk_at "evs"
    have : x / y = (q : Int) ∧ x % y = r := (Int.ediv_emod_unique hy0).mpr ⟨by lia, by lia, by lia⟩
    refine both_dec (fun _ => ?_) (fun hc => ?_)
    · walk_at "evs"
      rw [y0, decide_eq_false (show ¬ x < 0 by lia)]
      refine both_ff ?_
      walk_at "evs"
      refine ⟨[_, _], rfl, by simp, ret_of ?_⟩
      rw [this.1, this.2]
    · refine both_ff ?_
      walk_at "evs"
      refine ⟨[_, _], rfl, by simp, ret_of ?_⟩
      rw [this.1, this.2]
end

section -- Pe1
inductive JMul1 (xs ys : List Int) (W b : Nat) (k : Nat) (σ : St) : Prop where
  | mk (f : List Int) (o1 o2 o3 o4 o5 : Option V) (e0 : σ = ⟨[some (.d (Li xs)), some (.d (Li ys)), some (.d (.int W)), some (.mu 0), some (.d (.int (2 ^ W - 1))), o1, o2, o3, o4, o5], [some (f.map D.int)]⟩) (e1 : f.length = xs.length + ys.length) (e2 : Lm (2 ^ W) f) (e3 : val (2 ^ W) f = val (2 ^ W) (xs.take k) * b) (e4 : (∀ i, k + ys.length ≤ i → f.getD i 0 = 0))
inductive JMul2 (xs ys : List Int) (W b k : Nat) (x : Int) (j : Nat) (σ : St) : Prop where
  | mk (f : List Int) (c : Int) (o4 o5 : Option V) (e0 : σ = ⟨[some (.d (Li xs)), some (.d (Li ys)), some (.d (.int W)), some (.mu 0), some (.d (.int (2 ^ W - 1))), some (.d (.int k)), some (.d (.int x)), some (.d (.int c)), o4, o5], [some (f.map D.int)]⟩) (e1 : f.length = xs.length + ys.length) (e2 : Lm (2 ^ W) f) (e3 : 0 ≤ c) (e4 : c < 2 ^ W) (e5 : val (2 ^ W) f + (2 ^ W) ^ (k + j) * c = val (2 ^ W) (xs.take k) * b + (2 ^ W) ^ k * x * val (2 ^ W) (ys.take j)) (e6 : (∀ i, k + ys.length ≤ i → f.getD i 0 = 0))
theorem mul_school_c {G : Gl} (P : Pg G) {W : Nat} (hW : 1 ≤ W) (hW2 : W ≤ 12) (a b : Nat) (ha : (dg (2 ^ W) a).length ≤ 400) (hb : (dg (2 ^ W) b).length ≤ 400) :
    Fn G 2 226 [.d (Li (dg (2 ^ W) a)), .d (Li (dg (2 ^ W) b)), .d (.int W)] [] (Li (dg (2 ^ W) (a * b))) [] := by
  have hB := base_two hW
  have ma := lm_dg hB a
  have mb := lm_dg hB b
  have va := val_dg hB a
  have vb := val_dg hB b
  have hBp := two_le hW
  have hBs := pow_small hW2
  rw [castB] at ma mb va vb
  generalize hxs : dg (2 ^ W) a = xs at *
  generalize hys : dg (2 ^ W) b = ys at *
  refine Fn.here P 24 rfl rfl [(S "a", false), (S "b", false), (S "w", false), (S "found", false), (S "mask", false), (S "at", false), (S "limb", false), (S "carry", false), (S "spot", false), (S "other", false)] [S "len", S "enumerate", S "normal"] 7 [S "a", S "b", S "w"] (fun _ _ _ _ _ _ => rfl) (by decide +kernel) rfl (by decide) rfl rfl rfl (by decide +kernel) rfl rfl rfl rfl ?_
  intro C H
  walk_at "evs"
  refine U.swap2 (by assumption) (by walk_at "at") (by walk_at "at") ?_; walk_at "evs"
  refine U.callB (by assumption) (by walk_at "mem") (b_len P) (.builtin _) ?_; walk_at "evs"; refine CallK.lenLi ?_ (by lia); walk_at "evs"
  refine U.callB (by assumption) (by walk_at "mem") (b_len P) (.builtin _) ?_; walk_at "evs"; refine CallK.lenLi ?_ (by lia); walk_at "evs"
  refine ⟨xs.length + ys.length, by push_cast; rfl, by lia, ?_⟩
  walk_at "evs"
  refine ⟨_, _, rfl, ?_⟩
  walk_at "evs"
  refine U.for2 (by assumption) (.cons (by walk_at "at") (.cons (by walk_at "at") (.nil))) rfl ?_
  refine U.enum (by assumption) (by walk_at "mem") (b_enumerate P) ?_; walk_at "evs"
  refine ⟨_, rfl, ?_⟩
  refine ForK2.ints (JMul1 xs ys W b) ⟨_, _, _, _, _, _, rfl, by simp, Lm.rep (by (clear hB; lia)), by simp [val, val_rep], ?_⟩ ?_ ?_
  · intro i _
    rw [List.getD_eq_getElem?_getD, List.getElem?_replicate]; split <;> rfl
  · rintro k _ hk ⟨f, o1, o2, o3, o4, o5, rfl, fl, fm, fv, fz⟩
    have hx1 := ma.get hk
    have tx := val_take' (B := 2 ^ W) (xs := xs) (k := k)
    generalize xs.getD k 0 = x at *
    walk_at "evs"
    refine U.for2 (by assumption) (.cons (by walk_at "at") (.cons (by walk_at "at") (.nil))) rfl ?_
    refine U.enum (by assumption) (by walk_at "mem") (b_enumerate P) ?_; walk_at "evs"
    refine ⟨_, rfl, ?_⟩
    refine ForK2.ints (JMul2 xs ys W b k x) ⟨f, 0, _, _, rfl, fl, fm, by lia, by (clear hB; lia), by simp [val, fv], fz⟩ ?_ ?_
    · clear fl fm fv fz
      rintro j _ hj ⟨f, c, o4, o5, rfl, fl, fm, c0, c1, fv, fz⟩
      have hy1 := mb.get hj
      have ty := val_take' (B := 2 ^ W) (xs := ys) (k := j)
      generalize ys.getD j 0 = y at *
      have hf1 := fm.get (show k + j < f.length by lia)
      have e : ((k : Int) + j).toNat = k + j := by lia
      have p0 := Int.mul_nonneg hx1.1 hy1.1
      have p1 : x * y ≤ (2 ^ W - 1) * (2 ^ W - 1) := Int.mul_le_mul (by lia) (by lia) hy1.1 (by lia)
      have p2 : ((2 : Int) ^ W - 1) * (2 ^ W - 1) = 2 ^ W * 2 ^ W - 2 * 2 ^ W + 1 := by grind
      walk_at "evs"
      walk_at "mu"
      walk_at "evs"
      refine U.sub (xs := f) (.mu rfl) (by lia) (by lia) (by lia) ?_
      walk_at "evs"
      refine BinK.mul (by lia) ?_
      walk_at "evs"
      rw [e]
      walk_at "seti"; walk_at "evs"
      refine ⟨_, rfl, rfl, ?_⟩
      walk_at "evs"
      refine ⟨k + j, by push_cast; rfl, by lia, by lia, rfl, ?_⟩
      walk_at "evs"
      refine ⟨_, _, _, _, rfl, by simp [fl], fm.set (Int.emod_nonneg _ (by lia)) (Int.emod_lt_of_pos _ (by (clear hB; lia))), Int.ediv_nonneg (by lia) (by lia), Int.ediv_lt_of_lt_mul (by (clear hB; lia)) (by lia), ?_, ?_⟩
      · rw [val_set (by lia), ty]
        have := Int.emod_add_mul_ediv (c + (f.getD (k + j) 0 + x * y)) (2 ^ W)
        have e2 : ((2 : Int) ^ W) ^ (k + (j + 1)) = (2 ^ W) ^ (k + j) * 2 ^ W := by rw [← Nat.add_assoc, Int.pow_succ]
        have e3 : ((2 : Int) ^ W) ^ (k + j) = (2 ^ W) ^ k * (2 ^ W) ^ j := Int.pow_add _ _ _
        generalize ((2 : Int) ^ W) ^ (k + (j + 1)) = g1 at *
        generalize ((2 : Int) ^ W) ^ (k + j) = g2 at *
        subst e2
        grind
      · intro i hi
        rw [List.getD_eq_getElem?_getD, List.getElem?_set_ne (by lia), ← List.getD_eq_getElem?_getD]
        exact fz i hi
    · clear fl fm fv fz
      rintro _ ⟨f, c, o4, o5, rfl, fl, fm, c0, c1, fv, fz⟩
      rw [List.take_length, vb] at fv
      walk_at "evs"
      walk_at "seti"; walk_at "evs"
      refine ⟨_, rfl, rfl, ?_⟩
      walk_at "evs"
      refine U.callB (by assumption) (by walk_at "mem") (b_len P) (.builtin _) ?_; walk_at "evs"; refine CallK.lenLi ?_ (by lia); walk_at "evs"
      refine ⟨k + ys.length, by push_cast; rfl, by lia, by lia, rfl, ?_⟩
      walk_at "evs"
      refine ⟨_, _, _, _, _, _, rfl, by simp [fl], fm.set c0 c1, ?_, ?_⟩
      · rw [val_set (by lia), tx, fz _ (Nat.le_refl _)]
        grind
      · intro i hi
        rw [List.getD_eq_getElem?_getD, List.getElem?_set_ne (by lia), ← List.getD_eq_getElem?_getD]
        exact fz i (by lia)
  · rintro _ ⟨f, o1, o2, o3, o4, o5, rfl, fl, fm, fv, fz⟩
    rw [List.take_length, va] at fv
    walk_at "evs"
    refine U.call (by assumption) (by walk_at "mem") (g_normal P) (f_normal P) ?_; walk_at "evs"
    walk_at "frz"
    walk_at "evs"
    refine CallK.pure (by assumption) (normal_c P f (by lia)) (by lia) (by simp) ?_
    walk_at "evs"
    refine ⟨.inl ?_, by simp⟩
    have := norm_dg (B := 2 ^ W) hB (xs := f) (n := a * b) (by rw [castB]; exact fm) (by rw [castB, fv]; push_cast; rfl)
    rw [this]
end

section -- Pe2
theorem divrem_small_c {G : Gl} (P : Pg G) {W : Nat} (hW : 1 ≤ W) (hW2 : W ≤ 12) (a d : Nat) (ha : (dg (2 ^ W) a).length ≤ 1000) (hd0 : 0 < d) (hd1 : d < 2 ^ W) :
    Fn G 3 233 [.d (Li (dg (2 ^ W) a)), .d (Li [(d : Int)]), .d (.int W)] [] (.tup [Li (dg (2 ^ W) (a / d)), Li (dg (2 ^ W) (a % d))]) [] := by
  have hB := base_two hW
  have hm : a % d < d := Nat.mod_lt _ hd0
  have hs := dg_single hB (x := ((a % d : Nat) : Int)) (by lia) (by lia)
  rw [Int.toNat_natCast] at hs
  refine Fn.here P 25 rfl rfl [(S "a", false), (S "b", false), (S "w", false), (S "quotient", false), (S "rest", false)] [S "divrem_limb"] 2 [S "a", S "b", S "w"] (fun _ _ _ _ _ _ => rfl) (by decide +kernel) rfl (by decide) rfl rfl rfl (by decide +kernel) rfl rfl rfl rfl ?_
  intro C H
  walk_at "evs"
  refine U.untup (by assumption) (.cons (by walk_at "at") (.cons (by walk_at "at") (.nil))) ?_
  refine U.call (by assumption) (by walk_at "mem") (g_divrem_limb P) (f_divrem_limb P) ?_; walk_at "evs"
  refine U.sub (xs := [(d : Int)]) .d (by lia) (by simp) (by simp) ?_
  walk_at "evs"
  refine CallK.pure (by assumption) (divrem_limb_c P hW hW2 a d ha hd0 hd1) (by lia) (by simp) ?_
  refine ⟨_, _, rfl, .tup _, rfl, ?_⟩
  walk_at "evs"
  rw [hs]
  refine both_dec (fun hc => ?_) (fun hc => ?_)
  · refine Ev.frozen (EvF.list ?_)
    walk_at "evs"
    refine ⟨[_], rfl, by simp, ?_⟩
    walk_at "evs"
    refine ⟨[_, _], rfl, by simp, ?_⟩
    rw [if_pos hc]
    exact ⟨.inl rfl, by simp⟩
  · refine Ev.frozen (EvF.nil ?_)
    walk_at "evs"
    refine ⟨[_, _], rfl, by simp, ?_⟩
    rw [if_neg hc]
    exact ⟨.inl rfl, by simp⟩
end

section -- Pe3
inductive JGuess (t0 t1 t2 v1 v2 hi m : Int) (W : Nat) (n : Nat) (σ : St) : Prop where
  | mk (q r : Int) (e0 : σ = ⟨[some (.d (Li [t0, t1, t2])), some (.d (.int v1)), some (.d (.int v2)), some (.d (.int W)), some (.d (.int hi)), some (.d (.int (2 ^ W))), some (.d (.int q)), some (.d (.int r))], []⟩) (e1 : r = hi - q * v1) (e2 : 0 ≤ q) (e3 : q.toNat = n) (e4 : q ≤ 2 ^ W - 1) (e5 : m ≤ q) (e6 : 0 ≤ r)
theorem guessed_limb_c {G : Gl} (P : Pg G) {W : Nat} (hW : 1 ≤ W) (hW2 : W ≤ 12) (t0 t1 t2 v1 v2 : Int) (h00 : 0 ≤ t0) (h01 : t0 < 2 ^ W) (h10 : 0 ≤ t1) (h11 : t1 < 2 ^ W) (h20 : 0 ≤ t2) (h21 : t2 < 2 ^ W) (hv0 : 0 < v1) (hv1 : v1 < 2 ^ W) (hw0 : 0 ≤ v2) (hw1 : v2 < 2 ^ W) :
    Fn G 1 240 [.d (Li [t0, t1, t2]), .d (.int v1), .d (.int v2), .d (.int W)] [] (.int (if 2 ^ W - 1 < ((t2 * 2 ^ W + t1) * 2 ^ W + t0) / (v1 * 2 ^ W + v2) then 2 ^ W - 1 else ((t2 * 2 ^ W + t1) * 2 ^ W + t0) / (v1 * 2 ^ W + v2))) [] := by
  have hBp := two_le hW
  have hBs := pow_small hW2
  have tb : t2 * 2 ^ W ≤ 4096 * 4096 := Int.mul_le_mul (by lia) (by (omega)) (by lia) (by lia)
  have tb0 := Int.mul_nonneg h20 (show (0 : Int) ≤ 2 ^ W by lia)
  have hVp : 0 < v1 * 2 ^ W + v2 := by have := Int.mul_pos hv0 (show (0 : Int) < 2 ^ W by lia); lia
  refine Fn.here P 26 rfl rfl [(S "top", false), (S "first", false), (S "second", false), (S "w", false), (S "high", false), (S "base", false), (S "limb", false), (S "rest", false)] [S "min"] 4 [S "top", S "first", S "second", S "w"] (fun _ _ _ _ _ _ _ => rfl) (by decide +kernel) rfl (by decide) rfl rfl rfl (by decide +kernel) rfl rfl rfl rfl ?_
  intro C H
  walk_at "evs"
  refine U.swap2 (by assumption) (by walk_at "at") (by walk_at "at") ?_; walk_at "evs"
  refine U.sub (xs := [t0, t1, t2]) .d (by lia) (by simp) (by simp) ?_
  walk_at "evs"
  rw [show [t0, t1, t2].getD (Int.toNat 2) 0 = t2 from rfl]
  refine BinK.shlW (by lia) (by lia) ?_
  walk_at "evs"
  refine U.sub (xs := [t0, t1, t2]) .d (by lia) (by simp) (by simp) ?_
  rw [show [t0, t1, t2].getD (Int.toNat 1) 0 = t1 from rfl]
  refine BinK.orlow h10 h11 ?_
  walk_at "evs"
  refine ⟨_, _, rfl, ?_⟩
  generalize hH : t2 * 2 ^ W + t1 = hi at *
  walk_at "evs"
  refine U.callB (by assumption) (by walk_at "mem") (b_min P) (.builtin _) ?_
  walk_at "evs"
  refine BinK.fdiv hv0 (by lia) ?_
  walk_at "evs"
  refine CallK.min H.ok.han ?_
  walk_at "evs"
  have hHe : hi / v1 * v1 ≤ hi := Int.ediv_mul_le hi (by lia)
  have hH0 : 0 ≤ hi / v1 := Int.ediv_nonneg (by lia) (by lia)
  obtain ⟨q, hq⟩ : ∃ q, q = if 2 ^ W - 1 < hi / v1 then (2 : Int) ^ W - 1 else hi / v1 := ⟨_, rfl⟩
  rw [← hq]
  have q0 : 0 ≤ q := by rw [hq]; split <;> (omega)
  have q1 : q ≤ 2 ^ W - 1 := by rw [hq]; split <;> lia
  have qh : q ≤ hi / v1 := by rw [hq]; split <;> lia
  have qm : q * v1 ≤ hi / v1 * v1 := Int.mul_le_mul_of_nonneg_right qh (by lia)
  have hU0 : 0 ≤ hi * 2 ^ W := Int.mul_nonneg (by lia) (by lia)
  have hUV : (hi * 2 ^ W + t0) / (v1 * 2 ^ W + v2) ≤ hi / v1 := by
    have e1 := Int.ediv_mul_le (hi * 2 ^ W + t0) (show v1 * 2 ^ W + v2 ≠ 0 by lia)
    have e0 := Int.ediv_nonneg (a := hi * 2 ^ W + t0) (b := v1 * 2 ^ W + v2) (by lia) (by lia)
    generalize (hi * 2 ^ W + t0) / (v1 * 2 ^ W + v2) = t at *
    have e2 : t * (v1 * 2 ^ W + v2) = t * v1 * 2 ^ W + t * v2 := by grind
    have e3 := Int.mul_nonneg e0 hw0
    have e4 : t * v1 * 2 ^ W < (hi + 1) * 2 ^ W := by rw [Int.add_mul]; lia
    have e5 : t * v1 < hi + 1 := Int.lt_of_mul_lt_mul_right e4 (by lia)
    exact Int.le_ediv_of_mul_le hv0 (by (clear hH; lia))
  obtain ⟨m, hm⟩ : ∃ m, m = if 2 ^ W - 1 < (hi * 2 ^ W + t0) / (v1 * 2 ^ W + v2) then (2 : Int) ^ W - 1 else (hi * 2 ^ W + t0) / (v1 * 2 ^ W + v2) := ⟨_, rfl⟩
  rw [← hm]
  have mq : m ≤ q := by rw [hm, hq]; split <;> split <;> (omega)
  refine BinK.mul (by lia) ?_
  walk_at "evs"
  refine Ex.while (JGuess t0 t1 t2 v1 v2 hi m W) q.toNat ⟨q, _, rfl, rfl, q0, rfl, q1, mq, by (clear hH; lia)⟩ ?_
  clear hq q0 q1 qh qm mq
  rintro n _ ⟨q, r, rfl, hr, q0, qn, q1, mq, r0⟩
  have qv : q * v2 ≤ (2 ^ W - 1) * (2 ^ W - 1) := Int.mul_le_mul (by (omega)) (by lia) hw0 (by lia)
  have p2 : ((2 : Int) ^ W - 1) * (2 ^ W - 1) = 2 ^ W * 2 ^ W - 2 * 2 ^ W + 1 := by grind
  have eV : q * (v1 * 2 ^ W + v2) = (hi - r) * 2 ^ W + q * v2 := by rw [hr]; grind
  rw [Int.sub_mul] at eV
  have fin : q * (v1 * 2 ^ W + v2) ≤ hi * 2 ^ W + t0 → q = m := fun h => by
    have := Int.le_ediv_of_mul_le hVp h
    rw [hm] at mq ⊢
    split at mq <;> split <;> lia
  walk_at "evs"
  refine both_dec (fun hc => ?_) (fun hc => ?_)
  · walk_at "evs"
    refine BinK.mul (by lia) ?_
    walk_at "evs"
    refine BinK.shlW (by lia) (by lia) ?_
    walk_at "evs"
    refine U.sub (xs := [t0, t1, t2]) .d (by lia) (by simp) (by simp) ?_
    rw [show [t0, t1, t2].getD (Int.toNat 0) 0 = t0 from rfl]
    refine BinK.orlow h00 h01 ?_
    walk_at "evs"
    have r1 := Int.mul_nonneg r0 (show (0 : Int) ≤ 2 ^ W by lia)
    refine both_dec (fun hc => ?_) (fun hc => ?_)
    · walk_at "evs"
      have qp : q ≠ 0 := fun e => by rw [e, Int.zero_mul] at hc; (clear e; lia)
      have lo := guess_lo hVp (U := hi * 2 ^ W + t0) (q := q) (by lia)
      have e1 : (q - 1) * v1 = q * v1 - v1 := by rw [Int.sub_mul, Int.one_mul]
      refine ⟨(q - 1).toNat, by lia, q - 1, _, rfl, by (clear hH; lia), by lia, rfl, by lia, ?_, by lia⟩
      rw [hm]; split <;> lia
    · walk_at "evs"
      exact ⟨.inl (by rw [fin (by lia)]), by simp⟩
  · walk_at "evs"
    have : (2 : Int) ^ W * 2 ^ W ≤ r * 2 ^ W := Int.mul_le_mul_of_nonneg_right (by lia) (by lia)
    exact ⟨.inl (by rw [fin (by lia)]), by simp⟩
end

section -- Pe4
inductive JTake (xs ys : List Int) (L at_ W : Nat) (q v : Int) (j : Nat) (σ : St) : Prop where
  | mk (f : List Int) (c : Int) (o1 o2 o3 : Option V) (e0 : σ = ⟨[some (.mu 0), some (.d (Li ys)), some (.d (.int q)), some (.d (.int at_)), some (.d (.int W)), some (.d (.int c)), some (.d (.int (2 ^ W))), o1, o2, o3], [some (f.map D.int)]⟩) (e1 : f.length = L) (e2 : Lm (2 ^ W) f) (e3 : 0 ≤ c) (e4 : c < 2 ^ W) (e5 : val (2 ^ W) f - (2 ^ W) ^ (at_ + j) * c = v - (2 ^ W) ^ at_ * q * val (2 ^ W) (ys.take j)) (e6 : f.drop (at_ + ys.length + 1) = xs.drop (at_ + ys.length + 1))
theorem take_away_c {G : Gl} (P : Pg G) {W : Nat} (hW : 1 ≤ W) (hW2 : W ≤ 12) (ys : List Int) (mb : Lm (2 ^ W) ys) (L at_ : Nat) (q v : Int) (hq0 : 0 ≤ q) (hq1 : q < 2 ^ W) (hL : at_ + ys.length < L) (hL2 : L ≤ 1000) (hv0 : 0 ≤ v) (hv1 : v < (2 ^ W) ^ (at_ + ys.length + 1)) (v' r : Int)
    (hr : (r = 0 ∧ 0 ≤ v' ∧ v' = v - (2 ^ W) ^ at_ * q * val (2 ^ W) ys) ∨ (r = 1 ∧ v - (2 ^ W) ^ at_ * q * val (2 ^ W) ys < 0 ∧ v' = v - (2 ^ W) ^ at_ * q * val (2 ^ W) ys + (2 ^ W) ^ (at_ + ys.length + 1))) :
    Fn G 1 247 [.mu 0, .d (Li ys), .d (.int q), .d (.int at_), .d (.int W)] [(pd (2 ^ W) L v).map .int] (.int r) [(pd (2 ^ W) L v').map .int] := by
  have hBp := two_le hW
  have hBs := pow_small hW2
  have hxl := pd_len (B := 2 ^ W) L v
  have hxm := pd_lm (B := 2 ^ W) (by lia) L v
  have hxv := pd_val (B := 2 ^ W) (by lia) L v hv0 (by
    have := powle (B := 2 ^ W) (by lia) (show at_ + ys.length + 1 ≤ L by lia)
    lia)
  have hxd := drop_zero_of (B := 2 ^ W) (by lia) hxm (k := at_ + ys.length + 1) (by lia) (by lia)
  generalize pd (2 ^ W) L v = xs at *
  refine Fn.here P 27 rfl rfl [(S "rest", false), (S "b", false), (S "limb", false), (S "at", false), (S "w", false), (S "carry", false), (S "base", false), (S "spot", false), (S "other", false), (S "here", false)] [S "enumerate", S "len"] 5 [S "rest", S "b", S "limb", S "at", S "w"] (fun _ _ _ _ _ _ _ _ => rfl) (by decide +kernel) rfl (by decide) rfl rfl rfl (by decide +kernel) rfl rfl rfl rfl ?_
  intro C H
  walk_at "evs"
  refine U.swap2 (by assumption) (by walk_at "at") (by walk_at "at") ?_; walk_at "evs"
  refine ⟨_, _, rfl, ?_⟩
  walk_at "evs"
  refine U.for2 (by assumption) (.cons (by walk_at "at") (.cons (by walk_at "at") (.nil))) rfl ?_
  refine U.enum (by assumption) (by walk_at "mem") (b_enumerate P) ?_; walk_at "evs"
  refine ⟨_, rfl, ?_⟩
  refine ForK2.ints (JTake xs ys L at_ W q v) ⟨xs, 0, _, _, _, rfl, hxl, hxm, by lia, by lia, by simp [val, hxv], rfl⟩ ?_ ?_
  · rintro j _ hj ⟨f, c, o1, o2, o3, rfl, fl, fm, c0, c1, fv, fd⟩
    have hy1 := mb.get hj
    have ty := val_take' (B := 2 ^ W) (xs := ys) (k := j)
    generalize ys.getD j 0 = y at *
    have hf1 := fm.get (show at_ + j < f.length by lia)
    have e : ((at_ : Int) + j).toNat = at_ + j := by lia
    have p0 := Int.mul_nonneg hq0 hy1.1
    have p1 : q * y ≤ (2 ^ W - 1) * (2 ^ W - 1) := Int.mul_le_mul (by lia) (by lia) hy1.1 (by lia)
    have p2 : ((2 : Int) ^ W - 1) * (2 ^ W - 1) = 2 ^ W * 2 ^ W - 2 * 2 ^ W + 1 := by grind
    have m0 := Int.emod_nonneg (q * y + c) (show (2 : Int) ^ W ≠ 0 by lia)
    have m1 := Int.emod_lt_of_pos (q * y + c) (show (0 : Int) < 2 ^ W by lia)
    have m2 := Int.emod_add_mul_ediv (q * y + c) (2 ^ W)
    have d0 := Int.ediv_nonneg (a := q * y + c) (b := 2 ^ W) (by lia) (by lia)
    have d1 : (q * y + c) / 2 ^ W < 2 ^ W := Int.ediv_lt_of_lt_mul (by lia) (by lia)
    have d2 : (q * y + c) % 2 ^ W ≠ 0 → (q * y + c) / 2 ^ W < 2 ^ W - 1 := fun h => by
      rcases Int.lt_or_le ((q * y + c) / 2 ^ W) (2 ^ W - 1) with z | z
      · exact z
      · have : (q * y + c) / 2 ^ W = 2 ^ W - 1 := by lia
        rw [this, Int.mul_sub, Int.mul_one] at m2
        (exfalso; lia)
    have e2 : ((2 : Int) ^ W) ^ (at_ + (j + 1)) = (2 ^ W) ^ (at_ + j) * 2 ^ W := by rw [← Nat.add_assoc, Int.pow_succ]
    have e3 : ((2 : Int) ^ W) ^ (at_ + j) = (2 ^ W) ^ at_ * (2 ^ W) ^ j := Int.pow_add _ _ _
    walk_at "evs"
    walk_at "mu"
    walk_at "evs"
    refine U.sub (xs := f) (.mu rfl) (by lia) (by lia) (by lia) ?_
    rw [e]
    walk_at "evs"
    refine BinK.mul (by lia) ?_
    walk_at "evs"
    refine BinK.mod (by lia) ?_
    walk_at "evs"
    refine BinK.mul (by lia) ?_
    walk_at "evs"
    refine BinK.fdiv (by lia) (by lia) ?_
    walk_at "evs"
    have hsv := fun z => val_set (B := 2 ^ W) (xs := f) (k := at_ + j) (by lia) z
    generalize f.getD (at_ + j) 0 = fx at *
    generalize (q * y + c) % 2 ^ W = m at *
    generalize (q * y + c) / 2 ^ W = d at *
    refine both_dec (fun hc => ?_) (fun hc => ?_)
    · walk_at "evs"
      walk_at "seti"; walk_at "evs"
      refine both_dec (fun hc => ?_) (fun hc2 => by (exfalso; lia))
      walk_at "evs"
      refine ⟨_, rfl, rfl, ?_⟩
      walk_at "evs"
      refine ⟨at_ + j, by push_cast; rfl, by lia, by lia, rfl, ?_⟩
      walk_at "evs"
      refine ⟨_, _, _, _, _, rfl, by simp [fl], fm.set (by lia) (by lia), by lia, by have := d2 (by lia); (clear d1; lia), ?_, ?_⟩
      · rw [hsv, ty, e2]
        grind
      · rw [List.drop_set_of_lt (by lia)]; exact fd
    · walk_at "evs"
      walk_at "seti"; walk_at "evs"
      refine both_dec (fun hc => by (exfalso; lia)) (fun hc2 => ?_)
      walk_at "evs"
      refine ⟨_, rfl, rfl, ?_⟩
      walk_at "evs"
      refine ⟨at_ + j, by push_cast; rfl, by lia, by lia, rfl, ?_⟩
      walk_at "evs"
      refine ⟨_, _, _, _, _, rfl, by simp [fl], fm.set (by lia) (by lia), by lia, by lia, ?_, ?_⟩
      · rw [hsv, ty, e2]
        grind
      · rw [List.drop_set_of_lt (by lia)]; exact fd
  · rintro _ ⟨f, c, o1, o2, o3, rfl, fl, fm, c0, c1, fv, fd⟩
    rw [List.take_length] at fv
    have hf1 := fm.get (show at_ + ys.length < f.length by lia)
    have e : ((at_ : Int) + ys.length).toNat = at_ + ys.length := by lia
    walk_at "evs"
    walk_at "mu"
    walk_at "evs"
    refine U.callB (by assumption) (by walk_at "mem") (b_len P) (.builtin _) ?_; walk_at "evs"; refine CallK.lenLi ?_ (by lia); walk_at "evs"
    refine U.sub (xs := f) (.mu rfl) (by lia) (by lia) (by lia) ?_
    rw [e]
    walk_at "evs"
    have hsv := fun z => val_set (B := 2 ^ W) (xs := f) (k := at_ + ys.length) (by lia) z
    generalize f.getD (at_ + ys.length) 0 = fx at *
    have e2 : ((2 : Int) ^ W) ^ (at_ + ys.length + 1) = (2 ^ W) ^ (at_ + ys.length) * 2 ^ W := by rw [Int.pow_succ]
    rcases Int.lt_or_le (fx - c) 0 with hc | hc
    · walk_at "seti"; walk_at "evs"
      refine both_dec (fun hc => ?_) (fun hc2 => by (exfalso; lia))
      walk_at "evs"
      refine ⟨_, rfl, rfl, ?_⟩
      walk_at "evs"
      refine U.callB (by assumption) (by walk_at "mem") (b_len P) (.builtin _) ?_; walk_at "evs"; refine CallK.lenLi ?_ (by lia); walk_at "evs"
      refine ⟨at_ + ys.length, by push_cast; rfl, by lia, by lia, rfl, ?_⟩
      walk_at "evs"
      refine both_dec (fun hc => ?_) (fun hc2 => by (exfalso; lia))
      walk_at "evs"
      have fm2 := fm.set (B := 2 ^ W) (k := at_ + ys.length) (x := fx - c + 2 ^ W) (by lia) (by lia)
      have lt := val_lt_of_drop (B := 2 ^ W) (by lia) fm2 (k := at_ + ys.length + 1) (by simp; lia) (by rw [List.drop_set_of_lt (by lia), fd]; exact hxd)
      have ge := val_nonneg (B := 2 ^ W) (by lia) fm2
      have hv2 := hsv (fx - c + 2 ^ W)
      have : val (2 ^ W) (f.set (at_ + ys.length) (fx - c + 2 ^ W)) = v - (2 ^ W) ^ at_ * q * val (2 ^ W) ys + (2 ^ W) ^ (at_ + ys.length + 1) := by
        rw [hv2, e2]; grind
      rcases hr with ⟨_, h1, h2⟩ | ⟨rfl, h1, h2⟩
      · (exfalso; clear hv2 fv; lia)
      · have z := pd_of (B := 2 ^ W) (by lia) fm2 (n := L) (by simp [fl]) (this.trans h2.symm)
        refine ⟨.inl rfl, ?_⟩
        rw [← z]
        intro k l hk
        match k, hk with
        | 0, hk => cases hk; rfl
    · walk_at "seti"; walk_at "evs"
      refine both_dec (fun hc => by (exfalso; lia)) (fun hc2 => ?_)
      walk_at "evs"
      refine ⟨_, rfl, rfl, ?_⟩
      walk_at "evs"
      refine U.callB (by assumption) (by walk_at "mem") (b_len P) (.builtin _) ?_; walk_at "evs"; refine CallK.lenLi ?_ (by lia); walk_at "evs"
      refine ⟨at_ + ys.length, by push_cast; rfl, by lia, by lia, rfl, ?_⟩
      walk_at "evs"
      refine both_dec (fun hc => by (exfalso; lia)) (fun hc2 => ?_)
      walk_at "evs"
      have fm2 := fm.set (B := 2 ^ W) (k := at_ + ys.length) (x := fx - c) (by (omega)) (by lia)
      have ge := val_nonneg (B := 2 ^ W) (by lia) fm2
      have hv2 := hsv (fx - c)
      have : val (2 ^ W) (f.set (at_ + ys.length) (fx - c)) = v - (2 ^ W) ^ at_ * q * val (2 ^ W) ys := by
        rw [hv2]; grind
      rcases hr with ⟨rfl, h1, h2⟩ | ⟨_, h1, h2⟩
      · have z := pd_of (B := 2 ^ W) (by lia) fm2 (n := L) (by simp [fl]) (this.trans h2.symm)
        refine ⟨.inl rfl, ?_⟩
        rw [← z]
        intro k l hk
        match k, hk with
        | 0, hk => cases hk; rfl
      · (exfalso; clear hv2 fv; lia)
end

section -- Pe5
inductive JPut (xs ys : List Int) (L at_ W : Nat) (v : Int) (j : Nat) (σ : St) : Prop where
  | mk (f : List Int) (c : Int) (o1 o2 : Option V) (e0 : σ = ⟨[some (.mu 0), some (.d (Li ys)), some (.d (.int at_)), some (.d (.int W)), some (.d (.int c)), some (.d (.int (2 ^ W - 1))), o1, o2], [some (f.map D.int)]⟩) (e1 : f.length = L) (e2 : Lm (2 ^ W) f) (e3 : 0 ≤ c) (e4 : c ≤ 1) (e5 : val (2 ^ W) f + (2 ^ W) ^ (at_ + j) * c = v + (2 ^ W) ^ at_ * val (2 ^ W) (ys.take j)) (e6 : f.drop (at_ + ys.length + 1) = xs.drop (at_ + ys.length + 1))
theorem put_back_c {G : Gl} (P : Pg G) {W : Nat} (hW : 1 ≤ W) (hW2 : W ≤ 12) (ys : List Int) (mb : Lm (2 ^ W) ys) (L at_ : Nat) (v v' : Int) (hL : at_ + ys.length < L) (hL2 : L ≤ 1000) (hv0 : 0 ≤ v) (hv1 : v < (2 ^ W) ^ (at_ + ys.length + 1))
    (hv' : v' = v + (2 ^ W) ^ at_ * val (2 ^ W) ys - (2 ^ W) ^ (at_ + ys.length + 1)) (hv2 : 0 ≤ v') :
    Fn G 1 254 [.mu 0, .d (Li ys), .d (.int at_), .d (.int W)] [(pd (2 ^ W) L v).map .int] .none [(pd (2 ^ W) L v').map .int] := by
  have hBp := two_le hW
  have hBs := pow_small hW2
  have hxl := pd_len (B := 2 ^ W) L v
  have hxm := pd_lm (B := 2 ^ W) (by lia) L v
  have hxv := pd_val (B := 2 ^ W) (by lia) L v hv0 (by
    have := powle (B := 2 ^ W) (by lia) (show at_ + ys.length + 1 ≤ L by lia)
    lia)
  have hxd := drop_zero_of (B := 2 ^ W) (by lia) hxm (k := at_ + ys.length + 1) (by lia) (by lia)
  generalize pd (2 ^ W) L v = xs at *
  refine Fn.here P 28 rfl rfl [(S "rest", false), (S "b", false), (S "at", false), (S "w", false), (S "carry", false), (S "mask", false), (S "spot", false), (S "other", false)] [S "enumerate", S "len"] 4 [S "rest", S "b", S "at", S "w"] (fun _ _ _ _ _ _ _ => rfl) (by decide +kernel) rfl (by decide) rfl rfl rfl (by decide +kernel) rfl rfl rfl rfl ?_
  intro C H
  walk_at "evs"
  refine U.swap2 (by assumption) (by walk_at "at") (by walk_at "at") ?_; walk_at "evs"
  refine ⟨_, _, rfl, ?_⟩
  walk_at "evs"
  refine U.for2 (by assumption) (.cons (by walk_at "at") (.cons (by walk_at "at") (.nil))) rfl ?_
  refine U.enum (by assumption) (by walk_at "mem") (b_enumerate P) ?_; walk_at "evs"
  refine ⟨_, rfl, ?_⟩
  refine ForK2.ints (JPut xs ys L at_ W v) ⟨xs, 0, _, _, rfl, hxl, hxm, by lia, by lia, by simp [val, hxv], rfl⟩ ?_ ?_
  · rintro j _ hj ⟨f, c, o1, o2, rfl, fl, fm, c0, c1, fv, fd⟩
    have hy1 := mb.get hj
    have ty := val_take' (B := 2 ^ W) (xs := ys) (k := j)
    generalize ys.getD j 0 = y at *
    have hf1 := fm.get (show at_ + j < f.length by lia)
    have e : ((at_ : Int) + j).toNat = at_ + j := by lia
    have e2 : ((2 : Int) ^ W) ^ (at_ + (j + 1)) = (2 ^ W) ^ (at_ + j) * 2 ^ W := by rw [← Nat.add_assoc, Int.pow_succ]
    have e3 : ((2 : Int) ^ W) ^ (at_ + j) = (2 ^ W) ^ at_ * (2 ^ W) ^ j := Int.pow_add _ _ _
    walk_at "evs"
    walk_at "mu"
    walk_at "evs"
    refine U.sub (xs := f) (.mu rfl) (by lia) (by lia) (by lia) ?_
    rw [e]
    walk_at "evs"
    walk_at "seti"; walk_at "evs"
    refine ⟨_, rfl, rfl, ?_⟩
    walk_at "evs"
    refine ⟨at_ + j, by push_cast; rfl, by lia, by lia, rfl, ?_⟩
    walk_at "evs"
    have hsv := fun z => val_set (B := 2 ^ W) (xs := f) (k := at_ + j) (by lia) z
    generalize f.getD (at_ + j) 0 = fx at *
    have hc := carry_ok (B := 2 ^ W) (by lia) c0 c1 (x := fx + y) (by lia) (by lia)
    have m2 := Int.emod_add_mul_ediv (c + (fx + y)) (2 ^ W)
    refine ⟨_, _, _, _, rfl, by simp [fl], fm.set (Int.emod_nonneg _ (by lia)) (Int.emod_lt_of_pos _ (by lia)), hc.1, hc.2, ?_, ?_⟩
    · rw [hsv, ty, e2]
      grind
    · rw [List.drop_set_of_lt (by lia)]; exact fd
  · rintro _ ⟨f, c, o1, o2, rfl, fl, fm, c0, c1, fv, fd⟩
    rw [List.take_length] at fv
    have hf1 := fm.get (show at_ + ys.length < f.length by lia)
    have e : ((at_ : Int) + ys.length).toNat = at_ + ys.length := by lia
    walk_at "evs"
    walk_at "seti"; walk_at "evs"
    walk_at "mu"
    walk_at "evs"
    refine U.callB (by assumption) (by walk_at "mem") (b_len P) (.builtin _) ?_; walk_at "evs"; refine CallK.lenLi ?_ (by lia); walk_at "evs"
    refine U.sub (xs := f) (.mu rfl) (by lia) (by lia) (by lia) ?_
    rw [e]
    walk_at "evs"
    refine ⟨_, rfl, rfl, ?_⟩
    walk_at "evs"
    refine U.callB (by assumption) (by walk_at "mem") (b_len P) (.builtin _) ?_; walk_at "evs"; refine CallK.lenLi ?_ (by lia); walk_at "evs"
    refine ⟨at_ + ys.length, by push_cast; rfl, by lia, by lia, rfl, ?_⟩
    walk_at "evs"
    have hsv := fun z => val_set (B := 2 ^ W) (xs := f) (k := at_ + ys.length) (by lia) z
    generalize f.getD (at_ + ys.length) 0 = fx at *
    have e2 : ((2 : Int) ^ W) ^ (at_ + ys.length + 1) = (2 ^ W) ^ (at_ + ys.length) * 2 ^ W := by rw [Int.pow_succ]
    have m0 := Int.emod_nonneg (fx + c) (show (2 : Int) ^ W ≠ 0 by lia)
    have m1 := Int.emod_lt_of_pos (fx + c) (show (0 : Int) < 2 ^ W by lia)
    have m2 := Int.emod_add_mul_ediv (fx + c) (2 ^ W)
    have d0 := Int.ediv_nonneg (a := fx + c) (b := 2 ^ W) (by lia) (by lia)
    have d1 : (fx + c) / 2 ^ W < 2 := Int.ediv_lt_of_lt_mul (by lia) (by lia)
    generalize (fx + c) % 2 ^ W = m at *
    generalize (fx + c) / 2 ^ W = d at *
    have fm2 := fm.set (B := 2 ^ W) (k := at_ + ys.length) (x := m) (by (omega)) (by (omega))
    have lt := val_lt_of_drop (B := 2 ^ W) (by lia) fm2 (k := at_ + ys.length + 1) (by simp; lia) (by rw [List.drop_set_of_lt (by lia), fd]; exact hxd)
    have hvv := hsv m
    have h3 : val (2 ^ W) (f.set (at_ + ys.length) m) = v + (2 ^ W) ^ at_ * val (2 ^ W) ys - (2 ^ W) ^ (at_ + ys.length + 1) * d := by
      rw [hvv, e2]; grind
    have : d = 1 := by
      rcases Int.lt_or_le d 1 with z | z
      · have : d = 0 := by lia
        subst this
        rw [Int.mul_zero] at h3
        (exfalso; lia)
      · lia
    subst this
    rw [Int.mul_one] at h3
    have z := pd_of (B := 2 ^ W) (by lia) fm2 (n := L) (by simp [fl]) (h3.trans hv'.symm)
    refine ⟨.inr ⟨rfl, rfl⟩, ?_⟩
    rw [← z]
    intro k l hk
    match k, hk with
    | 0, hk => cases hk; rfl
end

section -- Pe6
theorem bits_c {G : Gl} (P : Pg G) (x w : Int) : Fn G 1 114 [.d (Li [x]), .d (.int w)] [] (.int (Builtin.Int.intBits x)) [] := by
  have hl : [x].length = 1 := rfl
  refine Fn.here P 8 rfl rfl [(S "a", false), (S "w", false)] [S "len"] 0 [S "a", S "w"] (fun _ _ _ _ _ => rfl) (by decide +kernel) rfl (by decide) rfl rfl rfl (by decide +kernel) rfl rfl rfl rfl ?_
  intro C H
  walk_at "evs"
  refine U.callB (by assumption) (by walk_at "mem") (b_len P) (.builtin _) ?_; walk_at "evs"; refine CallK.lenLi ?_ (by lia); walk_at "evs"
  refine both_dec (fun _ => ?_) (fun hc => absurd hc (by simp))
  walk_at "evs"
  refine U.callB (by assumption) (by walk_at "mem") (b_len P) (.builtin _) ?_; walk_at "evs"; refine CallK.lenLi ?_ (by lia); walk_at "evs"
  refine BinK.mul (by simp) ?_
  refine Ev.bitlen ?_
  walk_at "evs"
  refine SubK.listneg (l := [D.int x]) .d (by lia) (by simp) (by lia) rfl ?_
  refine ⟨_, rfl, ?_⟩
  walk_at "evs"
  exact ⟨.inl (by simp), by simp⟩
end

section -- Pe7
theorem clear_zero {xs : List Int} {s : Nat} (h : ∀ i, i < s + 1 → xs.getD i 0 = 0) (q : Int) : ∀ i, i < s → (xs.set s q).getD i 0 = 0 := by
  intro i hi
  rw [List.getD_eq_getElem?_getD, List.getElem?_set_ne (by lia), ← List.getD_eq_getElem?_getD]
  exact h i (by lia)
/-- one row: what is taken away -/
theorem row_step {P N rem D q v B : Int} (hP : 0 < P) (hD : 0 < D) (hv : v = N * P + rem) (r0 : 0 ≤ rem) (r1 : rem < P) (hN : 0 ≤ N) (h1 : N / D ≤ q) (h2 : q ≤ N / D + 1) :
    (q = N / D ∧ 0 ≤ v - P * q * D ∧ v - P * q * D < P * D) ∨ (q = N / D + 1 ∧ v - P * q * D < 0 ∧ 0 ≤ v - P * q * D + P * D ∧ v - P * q * D + P * D < P * D) := by
  have e := Int.emod_add_mul_ediv N D
  have m0 := Int.emod_nonneg N (show D ≠ 0 by lia)
  have m1 := Int.emod_lt_of_pos N hD
  generalize N / D = t at *
  generalize N % D = m at *
  have a0 : 0 ≤ m * P := Int.mul_nonneg m0 (by lia)
  have a1 : (m + 1) * P ≤ D * P := Int.mul_le_mul_of_nonneg_right (by lia) (by lia)
  rw [Int.add_mul, Int.one_mul] at a1
  have hPD : P * D = D * P := Int.mul_comm _ _
  have base : v - P * t * D = m * P + rem := by rw [hv, ← e]; grind
  rcases Int.lt_or_le t q with z | z
  · have : q = t + 1 := by lia
    subst this
    have : v - P * (t + 1) * D = m * P + rem - P * D := by rw [← base]; grind
    right
    (clear hv; lia)
  · have : q = t := by lia
    subst this
    left
    (clear hv; lia)
inductive JRows (ys : List Int) (L W : Nat) (Dv v0 : Int) (k : Nat) (σ : St) : Prop where
  | mk (v : Int) (g : List Int) (o o2 : Option V) (e0 : σ = ⟨[some (.mu 0), some (.d (Li ys)), some (.d (.int W)), some (.d (.int ys.length)), some (.mu 1), o, o2], [some ((pd (2 ^ W) L v).map D.int), some (g.map D.int)]⟩) (e1 : g.length = L - ys.length) (e2 : Lm (2 ^ W) g) (e3 : 0 ≤ v) (e4 : v < (2 ^ W) ^ (L - ys.length - k) * Dv) (e5 : val (2 ^ W) g * Dv + v = v0) (e6 : (∀ i, i < L - ys.length - k → g.getD i 0 = 0))
theorem divide_rows_c {G : Gl} (P : Pg G) {W : Nat} (hW : 1 ≤ W) (hW2 : W ≤ 12) (ys : List Int) (mb : Lm (2 ^ W) ys) (hn : 2 ≤ ys.length) (htop : 0 < ys.getD (ys.length - 1) 0) (L : Nat) (v0 : Int) (hL : ys.length ≤ L) (hL2 : L ≤ 1000) (hv0 : 0 ≤ v0) (hv1 : v0 < (2 ^ W) ^ (L - ys.length) * val (2 ^ W) ys) :
    Fn G 2 261 [.mu 0, .d (Li ys), .d (.int W)] [(pd (2 ^ W) L v0).map .int] (Li (pd (2 ^ W) (L - ys.length) (v0 / val (2 ^ W) ys))) [(pd (2 ^ W) L (v0 % val (2 ^ W) ys)).map .int] := by
  have hBp := two_le hW
  have hBs := pow_small hW2
  have hDlt := val_lt (B := 2 ^ W) (by lia) mb
  have hv1y := mb.get (show ys.length - 1 < ys.length by lia)
  have hv2y := mb.get (show ys.length - 2 < ys.length by lia)
  have hDs : val (2 ^ W) ys = (ys.getD (ys.length - 1) 0 * 2 ^ W + ys.getD (ys.length - 2) 0) * (2 ^ W) ^ (ys.length - 2) + val (2 ^ W) (ys.take (ys.length - 2)) := by
    have e1 := val_split (B := 2 ^ W) ys (ys.length - 2) (by lia)
    have e2 := val_drop' (B := 2 ^ W) (xs := ys) (k := ys.length - 2)
    have e3 := val_drop' (B := 2 ^ W) (xs := ys) (k := ys.length - 2 + 1)
    rw [show ys.length - 2 + 1 = ys.length - 1 by lia] at e2 e3
    rw [show ys.length - 1 + 1 = ys.length by lia, List.drop_length, val_nil] at e3
    rw [e1, e2, e3]
    grind
  have hlow := mb.lt_take (B := 2 ^ W) (by lia) (show ys.length - 2 ≤ ys.length by lia)
  have hMp := powpos (B := 2 ^ W) (by lia) (ys.length - 2)
  have hV : (2 : Int) ^ W ≤ ys.getD (ys.length - 1) 0 * 2 ^ W + ys.getD (ys.length - 2) 0 := by
    have : 1 * (2 : Int) ^ W ≤ ys.getD (ys.length - 1) 0 * 2 ^ W := Int.mul_le_mul_of_nonneg_right (by (clear hv1y; lia)) (by lia)
    lia
  have hDp : 0 < val (2 ^ W) ys := by
    have : 0 < (ys.getD (ys.length - 1) 0 * 2 ^ W + ys.getD (ys.length - 2) 0) * (2 ^ W) ^ (ys.length - 2) := Int.mul_pos (by lia) hMp
    (omega)
  have hL3 := pd_len (B := 2 ^ W) L v0
  obtain ⟨Dv, hD⟩ : ∃ Dv, Dv = val (2 ^ W) ys := ⟨_, rfl⟩
  rw [← hD]
  rw [← hD] at hDlt hDs hDp hv1
  refine Fn.here P 29 rfl rfl [(S "rest", false), (S "b", false), (S "w", false), (S "size", false), (S "quotient", false), (S "at", false), (S "limb", false)] [S "len", S "range", S "guessed_limb", S "take_away", S "put_back"] 4 [S "rest", S "b", S "w"] (fun _ _ _ _ _ _ => rfl) (by decide +kernel) rfl (by decide) rfl rfl rfl (by decide +kernel) rfl rfl rfl rfl ?_
  intro C H
  walk_at "evs"
  refine U.callB (by assumption) (by walk_at "mem") (b_len P) (.builtin _) ?_; walk_at "evs"; refine CallK.lenLi ?_ (by lia); walk_at "evs"
  refine U.callB (by assumption) (by walk_at "mem") (b_len P) (.builtin _) ?_
  walk_at "evs"
  walk_at "mu"
  walk_at "evs"
  refine CallK.len (.mu rfl) (by simp [hL3]; lia) ?_
  rw [List.length_map, hL3]
  walk_at "evs"
  refine ⟨L - ys.length, by congr 2; lia, by (clear hn; lia), ?_⟩
  walk_at "evs"
  refine U.for (by assumption) (by walk_at "at") ?_
  refine U.rangeDown (by assumption) (by walk_at "mem") (b_range P) ?_; walk_at "evs"
  refine U.callB (by assumption) (by walk_at "mem") (b_len P) (.builtin _) ?_
  walk_at "evs"
  walk_at "mu"
  walk_at "evs"
  refine CallK.len (.mu rfl) (by simp [hL3]; lia) ?_
  rw [List.length_map, hL3]
  walk_at "evs"
  refine ⟨_, rfl, by (clear hn; lia), by lia, ?_⟩
  refine ForK.rng (JRows ys L W Dv v0) ⟨v0, _, _, _, rfl, by simp, Lm.rep (by lia), hv0, hv1, by simp [val_rep], ?_⟩ ?_ ?_
  · intro i _
    rw [List.getD_eq_getElem?_getD, List.getElem?_replicate]; split <;> rfl
  · rintro k _ hk ⟨v, g, o, o2, rfl, gl, gm, u0, u1, gv, gz⟩
    have e : ((L : Int) - ys.length - 1 + k * -1) = ((L - ys.length - (k + 1) : Nat) : Int) := by lia
    rw [e]
    rw [show L - ys.length - k = L - ys.length - (k + 1) + 1 by lia] at u1 gz
    have hat : L - ys.length - (k + 1) + ys.length < L := by lia
    have hat2 : L - ys.length - (k + 1) < L - ys.length := by (clear hL hk; lia)
    generalize hse : L - ys.length - (k + 1) = s at *
    clear e
    have hsp := powpos (B := 2 ^ W) (by lia) s
    have hvB : v < (2 ^ W) ^ (s + ys.length + 1) := by
      have e1 : ((2 : Int) ^ W) ^ (s + 1) * Dv < (2 ^ W) ^ (s + 1) * (2 ^ W) ^ ys.length := Int.mul_lt_mul_of_pos_left hDlt (powpos (by lia) _)
      have e2 : ((2 : Int) ^ W) ^ (s + ys.length + 1) = (2 ^ W) ^ (s + 1) * (2 ^ W) ^ ys.length := by rw [← Int.pow_add]; congr 1; lia
      lia
    have hfl := pd_len (B := 2 ^ W) L v
    have hfm := pd_lm (B := 2 ^ W) (by lia) L v
    have hfv := pd_val (B := 2 ^ W) (by lia) L v u0 (by
      have := powle (B := 2 ^ W) (by lia) (show s + ys.length + 1 ≤ L by (clear hse; lia))
      lia)
    have hfd := drop_zero_of (B := 2 ^ W) (by lia) hfm (k := s + ys.length + 1) (by (clear hse; lia)) (by lia)
    have hspl := val_split (B := 2 ^ W) (pd (2 ^ W) L v) s (by (clear hse hn; lia))
    have hrem := hfm.lt_take (B := 2 ^ W) (by lia) (show s ≤ (pd (2 ^ W) L v).length by (clear hse hn; lia))
    have hN0 := val_nonneg (B := 2 ^ W) (by lia) (hfm.drop s)
    have hNs : val (2 ^ W) ((pd (2 ^ W) L v).drop s) = (((pd (2 ^ W) L v).getD (s + ys.length) 0 * 2 ^ W + (pd (2 ^ W) L v).getD (s + ys.length - 1) 0) * 2 ^ W + (pd (2 ^ W) L v).getD (s + ys.length - 2) 0) * (2 ^ W) ^ (ys.length - 2) + val (2 ^ W) (((pd (2 ^ W) L v).drop s).take (ys.length - 2)) := by
      have e1 := val_split (B := 2 ^ W) ((pd (2 ^ W) L v).drop s) (ys.length - 2) (by simp; (clear hse; lia))
      rw [List.drop_drop] at e1
      have e2 := val_drop' (B := 2 ^ W) (xs := pd (2 ^ W) L v) (k := s + (ys.length - 2))
      have e3 := val_drop' (B := 2 ^ W) (xs := pd (2 ^ W) L v) (k := s + (ys.length - 2) + 1)
      have e4 := val_drop' (B := 2 ^ W) (xs := pd (2 ^ W) L v) (k := s + (ys.length - 2) + 1 + 1)
      rw [show s + (ys.length - 2) + 1 + 1 + 1 = s + ys.length + 1 by lia, hfd] at e4
      rw [show s + (ys.length - 2) + 1 + 1 = s + ys.length by lia] at e3 e4
      rw [show s + (ys.length - 2) + 1 = s + ys.length - 1 by (clear hse; lia)] at e2 e3
      rw [show s + (ys.length - 2) = s + ys.length - 2 by (clear hse; lia)] at e1 e2
      rw [e1, e2, e3, e4]
      grind
    have hlowN := (hfm.drop s).lt_take (B := 2 ^ W) (by lia) (show ys.length - 2 ≤ ((pd (2 ^ W) L v).drop s).length by simp; (clear hse; lia))
    have ht0 := hfm.get (show s + ys.length - 2 < (pd (2 ^ W) L v).length by (clear hse; lia))
    have ht1 := hfm.get (show s + ys.length - 1 < (pd (2 ^ W) L v).length by (clear hse; lia))
    have ht2 := hfm.get (show s + ys.length < (pd (2 ^ W) L v).length by (clear hse; lia))
    have hNlt : val (2 ^ W) ((pd (2 ^ W) L v).drop s) < Dv * 2 ^ W := by
      have e1 : ((2 : Int) ^ W) ^ (s + 1) * Dv = (2 ^ W) ^ s * (Dv * 2 ^ W) := by rw [Int.pow_succ]; grind
      have e2 : ((2 : Int) ^ W) ^ s * val (2 ^ W) ((pd (2 ^ W) L v).drop s) < (2 ^ W) ^ s * (Dv * 2 ^ W) := by lia
      exact Int.lt_of_mul_lt_mul_left e2 (by lia)
    have hU0 : 0 ≤ ((pd (2 ^ W) L v).getD (s + ys.length) 0 * 2 ^ W + (pd (2 ^ W) L v).getD (s + ys.length - 1) 0) * 2 ^ W + (pd (2 ^ W) L v).getD (s + ys.length - 2) 0 := by
      have e1 := Int.mul_nonneg ht2.1 (show (0 : Int) ≤ 2 ^ W by lia)
      have e2 := Int.mul_nonneg (show 0 ≤ (pd (2 ^ W) L v).getD (s + ys.length) 0 * 2 ^ W + (pd (2 ^ W) L v).getD (s + ys.length - 1) 0 by lia) (show (0 : Int) ≤ 2 ^ W by lia)
      lia
    have gc := guessed_limb_c P hW hW2 _ _ _ _ _ ht0.1 ht0.2 ht1.1 ht1.2 ht2.1 ht2.2 htop hv1y.2 hv2y.1 hv2y.2
    obtain ⟨q, hq⟩ : ∃ q, q = if 2 ^ W - 1 < (((pd (2 ^ W) L v).getD (s + ys.length) 0 * 2 ^ W + (pd (2 ^ W) L v).getD (s + ys.length - 1) 0) * 2 ^ W + (pd (2 ^ W) L v).getD (s + ys.length - 2) 0) / (ys.getD (ys.length - 1) 0 * 2 ^ W + ys.getD (ys.length - 2) 0) then (2 : Int) ^ W - 1 else (((pd (2 ^ W) L v).getD (s + ys.length) 0 * 2 ^ W + (pd (2 ^ W) L v).getD (s + ys.length - 1) 0) * 2 ^ W + (pd (2 ^ W) L v).getD (s + ys.length - 2) 0) / (ys.getD (ys.length - 1) 0 * 2 ^ W + ys.getD (ys.length - 2) 0) := ⟨_, rfl⟩
    rw [← hq] at gc
    have kn := knuth (by lia) hMp hV hlow.1 hlow.2 hlowN.1 hlowN.2 hDs hNs hU0 hNlt hq
    have q0 : 0 ≤ q := by
      have := Int.ediv_nonneg hU0 (show 0 ≤ ys.getD (ys.length - 1) 0 * 2 ^ W + ys.getD (ys.length - 2) 0 by lia)
      rw [hq]; split <;> (omega)
    have q1 : q < 2 ^ W := by rw [hq]; split <;> lia
    have rs := row_step (B := 2 ^ W) hsp hDp (v := v) (N := val (2 ^ W) ((pd (2 ^ W) L v).drop s)) (rem := val (2 ^ W) ((pd (2 ^ W) L v).take s)) (q := q) (by rw [Int.mul_comm]; lia) hrem.1 hrem.2 hN0 kn.1 kn.2
    have hNq : 0 ≤ val (2 ^ W) ((pd (2 ^ W) L v).drop s) / Dv := Int.ediv_nonneg hN0 (by lia)
    clear hq kn
    have e1 : ((s : Int) + ys.length - 2) = ((s + ys.length - 2 : Nat) : Int) := by (clear rs hse; lia)
    have e2 : ((s : Int) + ys.length + 1) = ((s + ys.length + 1 : Nat) : Int) := by lia
    have ct := cutD_mid (xs := pd (2 ^ W) L v) (n := s + ys.length - 2) (m := s + ys.length + 1) (by (clear hse; lia)) (by (clear hse; lia))
    rw [show s + ys.length + 1 - (s + ys.length - 2) = 3 by (clear hse; lia), take3 (by (clear hse; lia)), show s + ys.length - 2 + 1 = s + ys.length - 1 by (clear rs hse hn; lia), show s + ys.length - 2 + 2 = s + ys.length by (clear hse; lia)] at ct
    refine Exs.mid (fun σ => σ = ⟨[some (.mu 0), some (.d (Li ys)), some (.d (.int W)), some (.d (.int ys.length)), some (.mu 1), some (.d (.int s)), some (.d (.int q))], [some ((pd (2 ^ W) L v).map D.int), some (g.map D.int)]⟩) ?_ ?_
    · walk_at "evs"
      refine U.call (by assumption) (by walk_at "mem") (g_guessed_limb P) (f_guessed_limb P) ?_; walk_at "evs"
      walk_at "mu"
      walk_at "evs"
      refine ⟨_, rfl, ?_⟩
      walk_at "evs"
      refine ⟨_, rfl, ?_⟩
      refine ⟨_, .mu rfl, by simp [hfl]; lia, ?_⟩
      rw [e1, e2, ct]
      walk_at "evs"
      refine U.sub (xs := ys) .d (by lia) (by lia) (by lia) ?_
      rw [show ((ys.length : Int) - 1).toNat = ys.length - 1 by (clear rs; lia)]
      walk_at "evs"
      refine U.sub (xs := ys) .d (by lia) (by lia) (by lia) ?_
      rw [show ((ys.length : Int) - 2).toNat = ys.length - 2 by (clear rs hn; lia)]
      walk_at "evs"
      refine CallK.pure (by assumption) gc (by lia) (by simp) ?_
      exact ⟨rfl, rfl⟩
    rintro _ rfl
    walk_at "evs"
    refine U.call (by assumption) (by walk_at "mem") (g_take_away P) (f_take_away P) ?_; walk_at "evs"
    walk_at "mu"
    walk_at "evs"
    have eD : val (2 ^ W) ys = Dv := hD.symm
    rcases rs with ⟨rq, r0, r1⟩ | ⟨rq, r0, r1, r2⟩
    · refine CallK.one (l' := (pd (2 ^ W) L (v - (2 ^ W) ^ s * q * Dv)).map D.int) (by assumption) (take_away_c P hW hW2 ys mb L s q v q0 q1 hat hL2 u0 hvB (v - (2 ^ W) ^ s * q * Dv) 0 (.inl ⟨rfl, r0, by rw [eD]⟩)) (by lia) rfl rfl (by simp) ?_
      walk_at "evs"
      refine both_eq (fun hc => absurd hc (by decide)) (fun _ => ?_)
      walk_at "evs"
      walk_at "seti"
      walk_at "evs"
      refine ⟨_, rfl, rfl, ?_⟩
      walk_at "evs"
      refine ⟨s, rfl, by (clear hse; lia), by (clear hse; lia), rfl, ?_⟩
      walk_at "evs"
      refine ⟨_, _, _, _, rfl, by simp [gl], gm.set q0 q1, r0, by rw [hse]; exact r1, ?_, by rw [hse]; exact clear_zero gz q⟩
      rw [val_set (by (clear hse; lia)), gz s (by lia)]
      grind
    · have e3 : ((2 : Int) ^ W) ^ s * (q - 1) * Dv = (2 ^ W) ^ s * q * Dv - (2 ^ W) ^ s * Dv := by grind
      have hp1 := powpos (B := 2 ^ W) (by lia) (s + ys.length + 1)
      have hbig : ((2 : Int) ^ W) ^ s * Dv < (2 ^ W) ^ (s + ys.length + 1) := by
        have e5 : ((2 : Int) ^ W) ^ s * Dv < (2 ^ W) ^ s * (2 ^ W) ^ ys.length := Int.mul_lt_mul_of_pos_left hDlt hsp
        have e6 : ((2 : Int) ^ W) ^ s * (2 ^ W) ^ ys.length = (2 ^ W) ^ (s + ys.length) := by rw [← Int.pow_add]
        have e7 := powle (B := 2 ^ W) (by lia) (show s + ys.length ≤ s + ys.length + 1 by lia)
        lia
      refine CallK.one (l' := (pd (2 ^ W) L (v - (2 ^ W) ^ s * q * Dv + (2 ^ W) ^ (s + ys.length + 1))).map D.int) (by assumption) (take_away_c P hW hW2 ys mb L s q v q0 q1 hat hL2 u0 hvB (v - (2 ^ W) ^ s * q * Dv + (2 ^ W) ^ (s + ys.length + 1)) 1 (.inr ⟨rfl, by rw [eD]; exact r0, by rw [eD]⟩)) (by lia) rfl rfl (by simp) ?_
      walk_at "evs"
      refine both_eq (fun _ => ?_) (fun hc => absurd rfl hc)
      walk_at "evs"
      refine U.expr (by assumption) ?_
      refine U.call (by assumption) (by walk_at "mem") (g_put_back P) (f_put_back P) ?_; walk_at "evs"
      walk_at "mu"
      walk_at "evs"
      refine CallK.one (l' := (pd (2 ^ W) L (v - (2 ^ W) ^ s * q * Dv + (2 ^ W) ^ s * Dv)).map D.int) (by assumption) (put_back_c P hW hW2 ys mb L s (v - (2 ^ W) ^ s * q * Dv + (2 ^ W) ^ (s + ys.length + 1)) (v - (2 ^ W) ^ s * q * Dv + (2 ^ W) ^ s * Dv) hat hL2 (by lia) (by lia) (by rw [eD]; lia) r1) (by lia) rfl rfl (by simp) ?_
      walk_at "evs"
      walk_at "seti"
      walk_at "evs"
      refine ⟨_, rfl, rfl, ?_⟩
      walk_at "evs"
      refine ⟨s, rfl, by (clear hse; lia), by (clear hse; lia), rfl, ?_⟩
      walk_at "evs"
      refine ⟨_, _, _, _, rfl, by simp [gl], gm.set (by (clear q0; lia)) (by lia), r1, by rw [hse]; exact r2, ?_, by rw [hse]; exact clear_zero gz _⟩
      rw [val_set (by (clear hse; lia)), gz s (by lia)]
      grind
  · rintro _ ⟨v, g, o, o2, rfl, gl, gm, u0, u1, gv, gz⟩
    have e : L - ys.length - ((L : Int) - ys.length - 1 + 1).toNat = 0 := by lia
    rw [e] at u1
    simp at u1
    have hq := (Int.ediv_emod_unique hDp (a := v0) (r := v) (q := val (2 ^ W) g)).mpr ⟨by rw [Int.mul_comm]; lia, u0, u1⟩
    walk_at "evs"
    have z := pd_of (B := 2 ^ W) (by lia) gm gl hq.1.symm
    rw [hq.2, ← z]
    refine ⟨.inl rfl, ?_⟩
    intro k l hk
    match k, hk with
    | 0, hk => cases hk; rfl
end

section -- Pe8
theorem dg_top {B : Nat} (hB : 2 ≤ B) {n : Nat} (hl : 0 < (dg B n).length) : 0 < (dg B n).getD ((dg B n).length - 1) 0 := by
  have h1 := dg_last hB n
  have h2 := lm_dg hB n
  generalize dg B n = xs at *
  have h3 := h2.get (show xs.length - 1 < xs.length by (omega))
  have h4 := h1 (xs.getD (xs.length - 1) 0) (by rw [List.getLast?_eq_getElem?, List.getD_eq_getElem?_getD, List.getElem?_eq_getElem (by (omega))]; rfl)
  lia
theorem divrem_school_c {G : Gl} (P : Pg G) {W : Nat} (hW : 1 ≤ W) (hW2 : W ≤ 12) (a b : Nat) (ha : a < 2 ^ 400) (hb : b < 2 ^ 400) (hb0 : 0 < b) :
    Fn G 4 268 [.d (Li (dg (2 ^ W) a)), .d (Li (dg (2 ^ W) b)), .d (.int W)] [] (.tup [Li (dg (2 ^ W) (a / b)), Li (dg (2 ^ W) (a % b))]) [] := by
  have hB := base_two hW
  have hBp := two_le hW
  have hBs := pow_small hW2
  have la := dg_len2 hW ha
  have lb := dg_len2 hW hb
  have cc := compare_c P hB a b (by lia) (by lia)
  have mb := lm_dg hB b
  have vb := val_dg hB b
  have gb := dg_ge hB b
  have alt := dg_lt hB a
  have hnz := @dg_nil (2 ^ W) b hB
  have htp := @dg_top (2 ^ W) hB b
  have lenle := @dg_len_lt (2 ^ W) hB a b
  rw [castB] at mb vb gb alt
  have hn0 : 0 < (dg (2 ^ W) b).length := by
    rcases Nat.eq_zero_or_pos (dg (2 ^ W) b).length with z | z
    · have := hnz.mp (List.eq_nil_of_length_eq_zero z); lia
    · exact z
  replace htp := htp hn0
  have ht1 := mb.get (show (dg (2 ^ W) b).length - 1 < (dg (2 ^ W) b).length by (clear hnz; lia))
  have hbt := bits_of htp
  have hsp := val_split (B := 2 ^ W) (dg (2 ^ W) b) ((dg (2 ^ W) b).length - 1) (by (clear hnz hn0; lia))
  have hdr := val_drop' (B := 2 ^ W) (xs := dg (2 ^ W) b) (k := (dg (2 ^ W) b).length - 1)
  rw [show (dg (2 ^ W) b).length - 1 + 1 = (dg (2 ^ W) b).length by (clear hnz; lia), List.drop_length, val_nil] at hdr
  have hlow := mb.lt_take (B := 2 ^ W) (by (clear hB; lia)) (show (dg (2 ^ W) b).length - 1 ≤ (dg (2 ^ W) b).length by (clear hnz hn0; lia))
  rw [hdr, vb, Int.mul_zero, Int.add_zero] at hsp
  have hbW : Builtin.Int.intBits ((dg (2 ^ W) b).getD ((dg (2 ^ W) b).length - 1) 0) ≤ W := intBits_le (by
    have := castB W
    lia)
  generalize hxs : dg (2 ^ W) a = xs at *
  generalize hys : dg (2 ^ W) b = ys at *
  have la2 : (dg (2 ^ W) a).length ≤ 1000 := by rw [hxs]; lia
  have lb2 : (dg (2 ^ W) b).length ≤ 1000 := by rw [hys]; lia
  refine Fn.here P 30 rfl rfl [(S "a", false), (S "b", false), (S "w", false), (S "shift", false), (S "divisor", false), (S "rest", false), (S "quotient", false)] [S "len", S "DivisionByZero", S "compare", S "divrem_small", S "bits", S "shift_left", S "divide_rows", S "normal", S "shift_right"] 4 [S "a", S "b", S "w"] (fun _ _ _ _ _ _ => rfl) (by decide +kernel) rfl (by decide) rfl rfl rfl (by decide +kernel) rfl rfl rfl rfl ?_
  intro C H
  generalize ht : ys.getD (ys.length - 1) 0 = t at *
  generalize hbits : Builtin.Int.intBits t = bt at *
  walk_at "evs"
  refine U.callB (by assumption) (by walk_at "mem") (b_len P) (.builtin _) ?_; walk_at "evs"; refine CallK.lenLi ?_ (by lia); walk_at "evs"
  refine both_eq (fun hc => by (exfalso; lia)) (fun _ => ?_)
  walk_at "evs"
  refine U.call (by assumption) (by walk_at "mem") (g_compare P) (f_compare P) ?_; walk_at "evs"
  refine CallK.pure (by assumption) cc (by lia) (by simp) ?_
  walk_at "evs"
  refine both_dec (fun hc => ?_) (fun hc => ?_)
  · have hlt : a < b := by unfold cmp at hc; split at hc <;> (try split at hc) <;> (omega)
    walk_at "evs"
    refine Ev.frozen (EvF.nil ?_)
    walk_at "evs"
    refine ⟨_, .d, by simp; lia, ?_⟩
    walk_at "evs"
    rw [cutD_all]
    refine ⟨[_, _], rfl, by simp, .inl ?_, by simp⟩
    rw [Nat.div_eq_of_lt hlt, Nat.mod_eq_of_lt hlt, dg_zero, hxs]
    rfl
  have hge : b ≤ a := by unfold cmp at hc; split at hc <;> (try split at hc) <;> lia
  walk_at "evs"
  refine U.callB (by assumption) (by walk_at "mem") (b_len P) (.builtin _) ?_; walk_at "evs"; refine CallK.lenLi ?_ (by lia); walk_at "evs"
  refine both_eq (fun hc1 => ?_) (fun hc1 => ?_)
  · have hy1 : ys = [t] := by
      match ys, ht, hc1 with
      | [y], ht, _ => simp at ht; rw [ht]
      | [], _, h => simp at h
      | _ :: _ :: _, _, h => simp at h; lia
    have hbt2 : b = t.toNat := by rw [hy1, val_one] at vb; lia
    have ety : ys = [(t.toNat : Int)] := by rw [hy1]; congr 1; (clear hbt2 ht1; lia)
    walk_at "evs"
    refine U.call (by assumption) (by walk_at "mem") (g_divrem_small P) (f_divrem_small P) ?_; walk_at "evs"
    rw [ety, ← hxs]
    have hc2 := castB W
    refine CallK.pure (by assumption) (divrem_small_c P hW hW2 a t.toNat (by rw [hxs]; lia) (by lia) (by (clear hbt2; lia))) (by lia) (by simp) ?_
    walk_at "evs"
    refine ⟨.inl ?_, by simp⟩
    rw [hbt2]
  have hn2 : 2 ≤ ys.length := by lia
  walk_at "evs"
  refine U.call (by assumption) (by walk_at "mem") (g_bits P) (f_bits P) ?_; walk_at "evs"
  refine Ev.frozen (EvF.list ?_)
  walk_at "evs"
  refine SubK.listneg (l := ys.map D.int) .d (by lia) (by simp; (clear hc1; lia)) (by lia) (x := D.int t) ?_ ?_
  · rw [List.length_map, show (-1 + (ys.length : Int)).toNat = ys.length - 1 by (clear hc1 hnz; lia), List.getElem?_map, List.getElem?_eq_getElem (by (clear hc1 hnz; lia))]
    rw [List.getD_eq_getElem?_getD, List.getElem?_eq_getElem (by (clear hc1 hnz; lia))] at ht
    simpa using ht
  walk_at "evs"
  refine ⟨[_], rfl, by simp, ?_⟩
  walk_at "evs"
  refine CallK.pure (ret := .int bt) (by assumption) (by rw [← hbits]; exact bits_c P t W) (by lia) (by simp) ?_
  walk_at "evs"
  have es : ((W : Int) - bt) = ((W - bt : Nat) : Int) := by lia
  rw [es]
  have hsW : W - bt < W := by lia
  have h2s : (2 : Int) ^ bt * 2 ^ (W - bt) = 2 ^ W := by rw [← Int.pow_add]; congr 1; lia
  generalize W - bt = s at *
  have hsp2 : (0 : Int) < 2 ^ s := twoPos s
  have hsB : (2 : Int) ^ s < 2 ^ W := by
    have : (2 : Int) ^ bt = 2 * 2 ^ (bt - 1) := by
      obtain ⟨m, rfl⟩ : ∃ m, bt = m + 1 := ⟨bt - 1, by lia⟩
      rw [Int.pow_succ]; simp; lia
    have h1 : (0 : Int) < 2 ^ (bt - 1) := twoPos _
    have h3 : 2 * (2 : Int) ^ s ≤ 2 ^ bt * 2 ^ s := Int.mul_le_mul_of_nonneg_right (by (clear this ht1; lia)) (by lia)
    (clear hB; lia)
  have cbs : ((b * 2 ^ s : Nat) : Int) = b * 2 ^ s := by push_cast; rfl
  have cas : ((a * 2 ^ s : Nat) : Int) = a * 2 ^ s := by push_cast; rfl
  have p1 := powpos (B := 2 ^ W) (by (clear hB; lia)) (ys.length - 1)
  have hbs : (b : Int) * 2 ^ s < (2 ^ W) ^ ys.length := by
    have e1 : (b : Int) + 1 ≤ (2 ^ W) ^ (ys.length - 1) * (t + 1) := by rw [Int.mul_add, Int.mul_one]; lia
    have e2 : ((b : Int) + 1) * 2 ^ s ≤ (2 ^ W) ^ (ys.length - 1) * (t + 1) * 2 ^ s := Int.mul_le_mul_of_nonneg_right e1 (by lia)
    have e3 : (t + 1) * 2 ^ s ≤ 2 ^ bt * 2 ^ s := Int.mul_le_mul_of_nonneg_right (by lia) (by lia)
    have e4 : ((2 : Int) ^ W) ^ (ys.length - 1) * ((t + 1) * 2 ^ s) ≤ (2 ^ W) ^ (ys.length - 1) * 2 ^ W := Int.mul_le_mul_of_nonneg_left (by lia) (by lia)
    have e5 : ((2 : Int) ^ W) ^ ys.length = (2 ^ W) ^ (ys.length - 1) * 2 ^ W := by rw [← Int.pow_succ]; congr 1; (clear hc1 hnz; lia)
    rw [Int.mul_assoc] at e2
    rw [Int.add_mul, Int.one_mul] at e2
    lia
  have hasB : (a : Int) * 2 ^ s < (2 ^ W) ^ (xs.length + 1) := by
    have e1 : (a : Int) * 2 ^ s < (2 ^ W) ^ xs.length * 2 ^ s := Int.mul_lt_mul_of_pos_right alt hsp2
    have e2 : ((2 : Int) ^ W) ^ xs.length * 2 ^ s ≤ (2 ^ W) ^ xs.length * 2 ^ W := Int.mul_le_mul_of_nonneg_left (by lia) (by have := powpos (B := 2 ^ W) (by (clear hB; lia)) xs.length; lia)
    rw [Int.pow_succ]; lia
  have lbs : (dg (2 ^ W) (b * 2 ^ s)).length = ys.length := by
    have h1 : (dg (2 ^ W) (b * 2 ^ s)).length ≤ ys.length := dg_len hB (by
      have : (((2 ^ W) ^ ys.length : Nat) : Int) = (2 ^ W) ^ ys.length := by push_cast; rfl
      lia)
    have h2 : ¬ (dg (2 ^ W) (b * 2 ^ s)).length < ys.length := fun h => by
      rw [← hys] at h
      have h3 := dg_len_lt hB h
      have h4 : b * 1 ≤ b * 2 ^ s := Nat.mul_le_mul_left _ (Nat.one_le_two_pow)
      lia
    lia
  have las : (dg (2 ^ W) (a * 2 ^ s)).length ≤ xs.length + 1 := dg_len hB (by
      have : (((2 ^ W) ^ (xs.length + 1) : Nat) : Int) = (2 ^ W) ^ (xs.length + 1) := by push_cast; rfl
      lia)
  have mbs := lm_dg hB (b * 2 ^ s)
  have vbs := val_dg hB (b * 2 ^ s)
  have mas := lm_dg hB (a * 2 ^ s)
  have vas := val_dg hB (a * 2 ^ s)
  have tbs := @dg_top (2 ^ W) hB (b * 2 ^ s) (by (clear hc1 hn0; lia))
  rw [castB] at mbs vbs mas vas
  rw [cbs] at vbs
  rw [cas] at vas
  have hlla : ys.length ≤ xs.length := by
    rcases Nat.lt_or_ge xs.length ys.length with z | z
    · have := lenle z; (exfalso; clear z; lia)
    · exact z
  have hv1 : (a : Int) * 2 ^ s < (2 ^ W) ^ (xs.length + 1 - ys.length) * (b * 2 ^ s) := by
    have e1 : ((2 : Int) ^ W) ^ (xs.length + 1 - ys.length) * (2 ^ W) ^ (ys.length - 1) = (2 ^ W) ^ xs.length := by rw [← Int.pow_add]; congr 1; (clear hc1 hn0; lia)
    have e2 : ((2 : Int) ^ W) ^ (xs.length + 1 - ys.length) * (2 ^ W) ^ (ys.length - 1) ≤ (2 ^ W) ^ (xs.length + 1 - ys.length) * b := Int.mul_le_mul_of_nonneg_left (by (clear hc1 hnz hn0; lia)) (by have := powpos (B := 2 ^ W) (by (clear hB; lia)) (xs.length + 1 - ys.length); lia)
    have e3 : (a : Int) * 2 ^ s < (2 ^ W) ^ (xs.length + 1 - ys.length) * b * 2 ^ s := Int.mul_lt_mul_of_pos_right (by lia) hsp2
    rw [Int.mul_assoc] at e3
    exact e3
  refine U.call (by assumption) (by walk_at "mem") (g_shift_left P) (f_shift_left P) ?_; walk_at "evs"
  rw [← hys]
  refine CallK.pure (by assumption) (shift_left_c P hW hW2 b s hsW (by (clear hlla hys; omega))) (by lia) (by simp) ?_
  walk_at "evs"
  refine U.call (by assumption) (by walk_at "mem") (g_shift_left P) (f_shift_left P) ?_; walk_at "evs"
  rw [← hxs]
  refine CallK.pure (by assumption) (shift_left_c P hW hW2 a s hsW (by (clear hxs; omega))) (by lia) (by simp) ?_
  refine Exs.cons ?_
  refine U.set (by assumption) (by walk_at "at") ?_
  refine Ev.fresh (EvF.cat ?_)
  walk_at "evs"
  refine U.callB (by assumption) (by walk_at "mem") (b_len P) (.builtin _) ?_; walk_at "evs"; refine CallK.lenLi ?_ (by (clear hxs; lia)); walk_at "evs"
  refine U.callB (by assumption) (by walk_at "mem") (b_len P) (.builtin _) ?_; walk_at "evs"; refine CallK.lenLi ?_ (by lia); walk_at "evs"
  rw [hxs]
  refine ⟨xs.length + 1 - (dg (2 ^ W) (a * 2 ^ s)).length, by congr 2; lia, by lia, ?_⟩
  refine ⟨_, _, .d, .mu rfl, by simp; lia, ?_⟩
  rw [← List.map_append]
  have mr : Lm (2 ^ W) (dg (2 ^ W) (a * 2 ^ s) ++ List.replicate (xs.length + 1 - (dg (2 ^ W) (a * 2 ^ s)).length) 0) := mas.append (Lm.rep (by (clear hB; lia)))
  rw [pd_of (B := 2 ^ W) (by (clear hB; lia)) mr (n := xs.length + 1) (by simp; lia) (by rw [val_append, val_rep, vas, Int.mul_zero, Int.add_zero])]
  walk_at "evs"
  refine U.call (by assumption) (by walk_at "mem") (g_divide_rows P) (f_divide_rows P) ?_; walk_at "evs"
  walk_at "mu"
  walk_at "evs"
  have dr := divide_rows_c P hW hW2 (dg (2 ^ W) (b * 2 ^ s)) mbs (by lia) tbs (xs.length + 1) (a * 2 ^ s) (by lia) (by (clear la2; lia)) (Int.mul_nonneg (by lia) (by lia)) (by rw [lbs, vbs]; exact hv1)
  rw [vbs, lbs] at dr
  have eq1 : (a : Int) * 2 ^ s / (b * 2 ^ s) = ((a / b : Nat) : Int) := by rw [Int.mul_ediv_mul_of_pos_left _ _ hsp2]; rfl
  have eq2 : (a : Int) * 2 ^ s % (b * 2 ^ s) = ((a % b * 2 ^ s : Nat) : Int) := by
    have e1 := Nat.mod_add_div a b
    have e2 : (a : Int) = ((a % b : Nat) : Int) + b * ((a / b : Nat) : Int) := by exact_mod_cast e1.symm
    have e3 := Nat.mod_lt a hb0
    have e4 : ((a % b * 2 ^ s : Nat) : Int) = ((a % b : Nat) : Int) * 2 ^ s := by rw [Int.natCast_mul, castB]
    rw [e4]
    refine ((Int.ediv_emod_unique (Int.mul_pos (by lia) hsp2) (q := ((a / b : Nat) : Int))).mpr ⟨?_, Int.mul_nonneg (by lia) (by lia), Int.mul_lt_mul_of_pos_right (by lia) hsp2⟩).2
    generalize ((a % b : Nat) : Int) = r at *
    generalize ((a / b : Nat) : Int) = q at *
    rw [e2]; grind
  rw [eq1, eq2] at dr
  refine CallK.one (k := 1) (by assumption) dr (by lia) rfl rfl (by simp) ?_
  walk_at "evs"
  refine U.call (by assumption) (by walk_at "mem") (g_normal P) (f_normal P) ?_; walk_at "evs"
  refine CallK.pure (by assumption) (normal_c P _ (by rw [pd_len]; (clear hc1; lia))) (by lia) (by simp) ?_
  walk_at "evs"
  refine U.call (by assumption) (by walk_at "mem") (g_shift_right P) (f_shift_right P) ?_; walk_at "evs"
  refine U.call (by assumption) (by walk_at "mem") (g_normal P) (f_normal P) ?_; walk_at "evs"
  walk_at "frz"
  walk_at "evs"
  refine CallK.pure (by assumption) (normal_c P _ (by rw [pd_len]; (clear la2; lia))) (by lia) (by simp) ?_
  have hqb : ((a / b : Nat) : Int) < ((2 ^ W : Nat) : Int) ^ (xs.length + 1 - ys.length) := by
    rw [castB, ← eq1]
    exact Int.ediv_lt_of_lt_mul (Int.mul_pos (by lia) hsp2) hv1
  have hrb : ((a % b * 2 ^ s : Nat) : Int) < ((2 ^ W : Nat) : Int) ^ (xs.length + 1) := by
    rw [castB, ← eq2]
    have h1 := Int.emod_lt_of_pos ((a : Int) * 2 ^ s) (show 0 < (b : Int) * 2 ^ s from Int.mul_pos (by lia) hsp2)
    have h2 : (b : Int) * 2 ^ s ≤ a * 2 ^ s := Int.mul_le_mul_of_nonneg_right (by lia) (by lia)
    lia
  have n1 := norm_pd hB (n := xs.length + 1 - ys.length) (v := ((a / b : Nat) : Int)) (Int.natCast_nonneg _) hqb
  have n2 := norm_pd hB (n := xs.length + 1) (v := ((a % b * 2 ^ s : Nat) : Int)) (Int.natCast_nonneg _) hrb
  rw [castB, Int.toNat_natCast] at n1 n2
  rw [n1, n2]
  walk_at "evs"
  have hrl : (dg (2 ^ W) (a % b * 2 ^ s)).length ≤ 1000 := by
    have := dg_len hB (n := a % b * 2 ^ s) (k := xs.length + 1) (by
      apply Int.ofNat_lt.mp
      rw [Int.natCast_pow]
      exact hrb)
    (clear la2; lia)
  refine CallK.pure (by assumption) (shift_right_c P hW hW2 (a % b * 2 ^ s) s hsW hrl) (by lia) (by simp) ?_
  walk_at "evs"
  refine ⟨[_, _], rfl, by simp, .inl ?_, by simp⟩
  rw [Nat.mul_div_cancel _ (by exact Nat.two_pow_pos s)]
end

section -- Pf1
noncomputable abbrev Rw (W : Nat) (xs : List Int) : D := .list (xs.map (sg W))
/-- rows that are small enough -/
noncomputable def Sm (xs : List Int) : Prop := xs.length ≤ 10 ∧ ∀ x ∈ xs, x.natAbs < 2 ^ 90
theorem Sm.take {xs : List Int} (h : Sm xs) (k : Nat) : Sm (xs.take k) := ⟨by have := h.1; simp; lia, fun x hx => h.2 x (List.mem_of_mem_take hx)⟩
theorem Sm.dot {xs ys : List Int} (h1 : Sm xs) (h2 : Sm ys) : (dotI xs ys).natAbs < 2 ^ 190 := by
  have h3 := dotI_bound h1.2 h2.2
  have h4 := Nat.mul_le_mul_right (2 ^ 90 * 2 ^ 90) h1.1
  lia
theorem mul_contract {G : Gl} (P : Pg G) {W : Nat} (hW : 1 ≤ W) (hW2 : W ≤ 12) (x y : Int) (hx : x.natAbs < 2 ^ 100) (hy : y.natAbs < 2 ^ 100) :
    Fn G 3 170 [.d (sg W x), .d (sg W y), .d (.int W), .d (.val (.ref 226))] [] (sg W (x * y)) [] :=
  s_mul_c P hW x y hx hy (mul_school_c P hW hW2 _ _ (Nat.le_trans (dg_len2 hW hx) (by decide)) (Nat.le_trans (dg_len2 hW hy) (by decide)))
inductive JDot (xs ys : List Int) (W : Nat) (k : Nat) (σ : St) : Prop where
  | mk (o1 o2 : Option V) (e0 : σ = ⟨[some (.d (Rw W xs)), some (.d (Rw W ys)), some (.d (.int W)), some (.d (.val (.ref 226))), some (.d (sg W (dotI (xs.take k) (ys.take k)))), o1, o2], []⟩)
theorem dot_c {G : Gl} (P : Pg G) {W : Nat} (hW : 1 ≤ W) (hW2 : W ≤ 12) (xs ys : List Int) (hl : xs.length = ys.length) (hx : Sm xs) (hy : Sm ys) :
    Fn G 4 200 [.d (Rw W xs), .d (Rw W ys), .d (.int W), .d (.val (.ref 226))] [] (sg W (dotI xs ys)) [] := by
  have s0 : D.tup [.bool false, .list []] = sg W 0 := by
    show _ = D.tup [.bool (decide ((0 : Int) < 0)), Li (dg (2 ^ W) 0)]
    rw [dg_zero]; rfl
  refine Fn.here P 20 rfl rfl [(S "one", false), (S "other", false), (S "w", false), (S "mul", false), (S "found", false), (S "x", false), (S "y", false)] [S "NOUGHT", S "zip", S "s_add", S "s_mul"] 3 [S "one", S "other", S "w", S "mul"] (fun _ _ _ _ _ _ _ => rfl) (by decide +kernel) rfl (by decide) rfl rfl rfl (by decide +kernel) rfl rfl rfl rfl ?_
  intro C H
  walk_at "evs"
  refine U.nought P (by assumption) (by walk_at "mem") ?_
  rw [s0]
  walk_at "evs"
  refine U.for2 (by assumption) (.cons (by walk_at "at") (.cons (by walk_at "at") (.nil))) rfl ?_
  refine U.zip (by assumption) (by walk_at "mem") (b_zip P) ?_; walk_at "evs"
  refine ⟨_, _, rfl, ?_⟩
  refine ForK2.zip hl (JDot xs ys W) ⟨_, _, rfl⟩ ?_ ?_
  · rintro k x y _ hxk hyk ⟨o1, o2, rfl⟩
    have bx := hx.2 x (List.mem_of_getElem? hxk)
    have by' := hy.2 y (List.mem_of_getElem? hyk)
    have bd := (hx.take k).dot (hy.take k)
    have bm : (x * y).natAbs < 2 ^ 90 * 2 ^ 90 := by rw [Int.natAbs_mul]; exact Nat.mul_lt_mul'' bx by'
    walk_at "evs"
    refine U.call (by assumption) (by walk_at "mem") (g_s_add P) (f_s_add P) ?_; walk_at "evs"
    refine U.call (by assumption) (by walk_at "mem") (g_s_mul P) (f_s_mul P) ?_; walk_at "evs"
    refine CallK.pure (by assumption) (mul_contract P hW hW2 x y (by lia) (by lia)) (by lia) (by simp) ?_; walk_at "evs"
    refine CallK.pure (by assumption) (s_add_c P hW hW2 _ _ (by lia) (by lia)) (by lia) (by simp) ?_; walk_at "evs"
    rw [← dotI_take hxk hyk]
    exact ⟨_, _, rfl⟩
  · rintro _ ⟨o1, o2, rfl⟩
    rw [List.take_length, hl, List.take_length]
    walk_at "evs"
    exact ret_of rfl
end

section -- Pf2
theorem row_less_c {G : Gl} (P : Pg G) {W : Nat} (hW : 1 ≤ W) (hW2 : W ≤ 12) (xs ys : List Int) (m : Int) (hx : Sm xs) (hy : Sm ys) (hm : m.natAbs < 2 ^ 90) :
    Fn G 5 205 [.d (Rw W xs), .d (Rw W ys), .d (sg W m), .d (.int W), .d (.val (.ref 226))] [] (Rw W (lessI xs ys m)) [] := by
  have lx := hx.1
  refine Fn.here P 21 rfl rfl [(S "one", false), (S "other", false), (S "many", true), (S "w", true), (S "mul", true)] [S "zip"] 0 [S "one", S "other", S "many", S "w", S "mul"] (fun _ _ _ _ _ _ _ _ => rfl) (by decide +kernel) rfl (by decide) rfl rfl rfl (by decide +kernel) rfl rfl rfl rfl ?_
  intro C H
  walk_at "evs"
  refine U.comp2 (by assumption) [2, 3, 4] [S "many", S "w", S "mul"] [S "s_sub", S "s_mul"] [(S "x", false), (S "y", false), (S "many", true), (S "w", true), (S "mul", true)] rfl ⟨rfl, by decide +kernel, by decide +kernel, by decide +kernel, by decide +kernel, by decide +kernel, by decide, by decide +kernel⟩ rfl ?_; walk_at "evs"
  refine U.zip (by assumption) (by walk_at "mem") (b_zip P) ?_; walk_at "evs"
  refine ⟨_, _, rfl, by simp; lia, fun C' H' => ?_⟩
  refine CompK2.zip (r := fun x y => sg W (x - y * m)) ?_ ?_
  · intro x hxm y hym
    have bx := hx.2 x hxm
    have by' := hy.2 y hym
    have bm : (y * m).natAbs < 2 ^ 90 * 2 ^ 90 := by rw [Int.natAbs_mul]; exact Nat.mul_lt_mul'' by' hm
    clear H
    walk_at "evs"
    refine U.call (by assumption) (by walk_at "mem") (g_s_sub P) (f_s_sub P) ?_; walk_at "evs"
    refine U.call (by assumption) (by walk_at "mem") (g_s_mul P) (f_s_mul P) ?_; walk_at "evs"
    refine CallK.pure (by assumption) (mul_contract P hW hW2 y m (by lia) (by lia)) (by lia) (by simp) ?_; walk_at "evs"
    refine CallK.pure (by assumption) (s_sub_c P hW hW2 _ _ (by lia) (by lia)) (by lia) (by simp) ?_; walk_at "evs"
    exact ⟨rfl, _, _, rfl⟩
  · intro a b
    refine ⟨rfl, ret_of ?_⟩
    show D.list _ = D.list ((List.zipWith _ xs ys).map _)
    rw [List.map_zipWith]
theorem nearest_c {G : Gl} (P : Pg G) {W : Nat} (hW : 2 ≤ W) (hW2 : W ≤ 12) (x y : Int) (hx : x.natAbs < 2 ^ 190) (hy : y.natAbs < 2 ^ 190) (hy0 : 0 < y) :
    Fn G 7 212 [.d (sg W x), .d (sg W y), .d (.int W), .d (.val (.ref 268))] [] (sg W ((2 * x + y) / (2 * y))) [] := by
  have hW1 : 1 ≤ W := by lia
  refine Fn.here P 22 rfl rfl [(S "x", false), (S "y", false), (S "w", false), (S "divrem", false)] [S "fdiv", S "s_add", S "s_shift"] 0 [S "x", S "y", S "w", S "divrem"] (fun _ _ _ _ _ _ _ => rfl) (by decide +kernel) rfl (by decide) rfl rfl rfl (by decide +kernel) rfl rfl rfl rfl ?_
  intro C H
  walk_at "evs"
  refine U.call (by assumption) (by walk_at "mem") (g_fdiv P) (f_fdiv P) ?_; walk_at "evs"
  refine U.call (by assumption) (by walk_at "mem") (g_s_add P) (f_s_add P) ?_; walk_at "evs"
  refine U.call (by assumption) (by walk_at "mem") (g_s_shift P) (f_s_shift P) ?_; walk_at "evs"
  refine CallK.pure (by assumption) (s_shift_c P hW hW2 x (by lia)) (by lia) (by simp) ?_; walk_at "evs"
  refine CallK.pure (by assumption) (s_add_c P hW1 hW2 _ _ (by lia) (by lia)) (by lia) (by simp) ?_; walk_at "evs"
  refine U.call (by assumption) (by walk_at "mem") (g_s_shift P) (f_s_shift P) ?_; walk_at "evs"
  refine CallK.pure (by assumption) (s_shift_c P hW hW2 y (by lia)) (by lia) (by simp) ?_; walk_at "evs"
  refine CallK.pure (by assumption) (fdiv_c P hW1 hW2 (2 * x + y) (2 * y) (by (omega)) (by (clear hy0; omega)) (by lia) (divrem_school_c P hW1 hW2 _ _ (by (omega)) (by (clear hy0; omega)) (by (omega)))) (by lia) (by simp) ?_; walk_at "evs"
  exact ret_of rfl
end

section -- Pf3
theorem sm_of {u : List Int} {S0 : Int} (hl : u.length ≤ 10) (h : dotI u u ≤ S0) (hS : S0 < 2 ^ 40) : Sm u := ⟨hl, fun x hx => by have := entry_le hx; lia⟩
inductive JGauss (W : Nat) (R : List Int × List Int) (n : Nat) (σ : St) : Prop where
  | mk (u v : List Int) (o : Option V) (e0 : σ = ⟨[some (.d (Rw W u)), some (.d (Rw W v)), some (.d (.int W)), some (.d (.val (.ref 226))), some (.d (.val (.ref 268))), some (.d (sg W (dotI u u))), some (.d (sg W (dotI v v))), o], []⟩) (e1 : u.length = v.length) (e2 : u.length ≤ 10) (e3 : dotI u u + dotI v v < 2 ^ 30) (e4 : dotI u u + dotI v v < n) (e5 : gaussI n u v = R)
inductive JGauss2 (W k : Nat) (o : Option V) (R : List Int × List Int) (σ : St) : Prop where
  | mk (u v : List Int) (e0 : σ = ⟨[some (.d (Rw W u)), some (.d (Rw W v)), some (.d (.int W)), some (.d (.val (.ref 226))), some (.d (.val (.ref 268))), some (.d (sg W (dotI u u))), some (.d (sg W (dotI v v))), o], []⟩) (e1 : u.length = v.length) (e2 : u.length ≤ 10) (e3 : dotI u u ≤ dotI v v) (e4 : dotI u u + dotI v v < 2 ^ 30) (e5 : dotI u u + dotI v v < k + 1) (e6 : gstep k u v = R)
theorem gauss_pair_c {G : Gl} (P : Pg G) {W : Nat} (hW : 2 ≤ W) (hW2 : W ≤ 12) (xs ys : List Int) (hl : xs.length = ys.length) (hl2 : xs.length ≤ 10) (hx : dotI xs xs + dotI ys ys < 2 ^ 30) (N : Nat) (hN : dotI xs xs + dotI ys ys < N) :
    Fn G 8 219 [.d (Rw W xs), .d (Rw W ys), .d (.int W), .d (.val (.ref 226)), .d (.val (.ref 268))] [] (.tup [Rw W (gaussI N xs ys).1, Rw W (gaussI N xs ys).2]) [] := by
  have hW1 : 1 ≤ W := by lia
  have nx := dotI_self_nonneg xs
  have ny := dotI_self_nonneg ys
  have sx := sm_of hl2 (show dotI xs xs ≤ 2 ^ 30 by lia) (by lia)
  have sy := sm_of (by lia) (show dotI ys ys ≤ 2 ^ 30 by lia) (by lia)
  refine Fn.here P 23 rfl rfl [(S "one", false), (S "other", false), (S "w", false), (S "mul", false), (S "divrem", false), (S "size", false), (S "later", false), (S "many", false)] [S "dot", S "s_compare", S "s_sign", S "nearest_quotient", S "row_less"] 3 [S "one", S "other", S "w", S "mul", S "divrem"] (fun _ _ _ _ _ _ _ _ => rfl) (by decide +kernel) rfl (by decide) rfl rfl rfl (by decide +kernel) rfl rfl rfl rfl ?_
  intro C H
  walk_at "evs"
  refine U.swap2 (by assumption) (by walk_at "at") (by walk_at "at") ?_; walk_at "evs"
  refine U.call (by assumption) (by walk_at "mem") (g_dot P) (f_dot P) ?_; walk_at "evs"
  refine CallK.pure (by assumption) (dot_c P hW1 hW2 xs xs rfl sx sx) (by lia) (by simp) ?_; walk_at "evs"
  refine U.call (by assumption) (by walk_at "mem") (g_dot P) (f_dot P) ?_; walk_at "evs"
  refine CallK.pure (by assumption) (dot_c P hW1 hW2 ys ys rfl sy sy) (by lia) (by simp) ?_; walk_at "evs"
  refine ⟨_, _, rfl, ?_⟩
  walk_at "evs"
  refine Ex.while (JGauss W (gaussI N xs ys)) N ⟨xs, ys, _, rfl, hl, hl2, hx, hN, rfl⟩ ?_
  clear nx ny sx sy hl hl2 hx hN
  rintro n _ ⟨u, v, o, rfl, hl, hl2, hS, hn, hg⟩
  generalize gaussI N xs ys = R at *
  refine EvB.val (Ev.cbool (TruK.bool (both_tt ?_)))
  have nu := dotI_self_nonneg u
  have nv := dotI_self_nonneg v
  obtain ⟨k, rfl⟩ : ∃ k, n = k + 1 := ⟨n - 1, by lia⟩
  refine Exs.mid (JGauss2 W k o R) ?_ ?_
  · walk_at "evs"
    refine U.call (by assumption) (by walk_at "mem") (g_s_compare P) (f_s_compare P) ?_; walk_at "evs"
    refine CallK.pure (by assumption) (s_compare_c P hW1 _ _ (by lia) (by lia)) (by lia) (by simp) ?_; walk_at "evs"
    refine both_dec (fun hc => ?_) (fun hc => ?_)
    · have hlt : dotI v v < dotI u u := by unfold icmp at hc; split at hc <;> (try split at hc) <;> (omega)
      walk_at "evs"
      refine U.untup (by assumption) (.cons (by walk_at "at") (.cons (by walk_at "at") (.cons (by walk_at "at") (.cons (by walk_at "at") (.nil))))) ?_
      walk_at "evs"
      refine ⟨[_, _, _, _], rfl, by simp, ?_⟩
      refine ⟨_, _, rfl, .tup _, rfl, ?_⟩
      walk_at "evs"
      refine ⟨rfl, v, u, rfl, hl.symm, by lia, by lia, by lia, by lia, ?_⟩
      rw [gaussI_gt hlt] at hg
      exact hg
    · have hle : dotI u u ≤ dotI v v := by unfold icmp at hc; split at hc <;> (try split at hc) <;> lia
      walk_at "evs"
      refine ⟨rfl, u, v, rfl, hl, hl2, hle, hS, by lia, ?_⟩
      rw [gaussI_le (by lia)] at hg
      exact hg
  clear hg hn hS hl2 hl nu nv u v
  rintro _ ⟨u, v, rfl, hl, hl2, hle, hS, hn, hg⟩
  rw [gstep] at hg
  have nu := dotI_self_nonneg u
  have nv := dotI_self_nonneg v
  have su := sm_of hl2 (show dotI u u ≤ 2 ^ 30 by lia) (by lia)
  have sv := sm_of (by lia) (show dotI v v ≤ 2 ^ 30 by lia) (by lia)
  have cs := @dotI_cs u v
  walk_at "evs"
  refine U.call (by assumption) (by walk_at "mem") (g_s_sign P) (f_s_sign P) ?_; walk_at "evs"
  refine CallK.pure (by assumption) (s_sign_c P hW1 _ (by lia)) (by lia) (by simp) ?_; walk_at "evs"
  refine both_eq (fun hc => ?_) (fun hc => ?_)
  · have z : dotI u u = 0 := Int.sign_eq_zero_iff_zero.mp hc
    rw [if_pos z] at hg
    walk_at "evs"
    refine ⟨[_, _], rfl, by simp, ret_of ?_⟩
    rw [← hg]
  have z : dotI u u ≠ 0 := fun e => hc (by rw [e]; rfl)
  rw [if_neg z] at hg
  walk_at "evs"
  refine U.call (by assumption) (by walk_at "mem") (g_nearest_quotient P) (f_nearest_quotient P) ?_; walk_at "evs"
  refine U.call (by assumption) (by walk_at "mem") (g_dot P) (f_dot P) ?_; walk_at "evs"
  refine CallK.pure (by assumption) (dot_c P hW1 hW2 u v hl su sv) (by lia) (by simp) ?_; walk_at "evs"
  refine CallK.pure (by assumption) (nearest_c P hW hW2 _ _ (by lia) (by lia) (by lia)) (by lia) (by simp) ?_; walk_at "evs"
  have hmb : ((2 * dotI u v + dotI u u) / (2 * dotI u u)).natAbs ≤ (2 * dotI u v + dotI u u).natAbs := Int.natAbs_ediv_le_natAbs _ _
  generalize (2 * dotI u v + dotI u u) / (2 * dotI u u) = m at *
  refine U.call (by assumption) (by walk_at "mem") (g_s_sign P) (f_s_sign P) ?_; walk_at "evs"
  refine CallK.pure (by assumption) (s_sign_c P hW1 _ (by lia)) (by lia) (by simp) ?_; walk_at "evs"
  refine both_eq (fun hc => ?_) (fun hc => ?_)
  · have z : m = 0 := Int.sign_eq_zero_iff_zero.mp hc
    rw [if_pos z] at hg
    walk_at "evs"
    refine ⟨[_, _], rfl, by simp, ret_of ?_⟩
    rw [← hg]
  have zm : m ≠ 0 := fun e => hc (by rw [e]; rfl)
  rw [if_neg zm] at hg
  have hll := lessI_len (m := m) hl.symm
  have sw : Sm (lessI v u m) := ⟨by lia, fun q hq => by
    obtain ⟨x, hx, y, hy, rfl⟩ := lessI_mem hq
    have b1 := entry_le hx
    have b2 := entry_le hy
    have b3 : (y * m).natAbs ≤ 2 ^ 31 * 2 ^ 33 := by rw [Int.natAbs_mul]; exact Nat.mul_le_mul (by lia) (by lia)
    (omega)⟩
  have nw := dotI_self_nonneg (lessI v u m)
  have bw := sw.dot sw
  walk_at "evs"
  refine U.call (by assumption) (by walk_at "mem") (g_row_less P) (f_row_less P) ?_; walk_at "evs"
  refine CallK.pure (by assumption) (row_less_c P hW1 hW2 v u m sv su (by lia)) (by lia) (by simp) ?_; walk_at "evs"
  refine U.call (by assumption) (by walk_at "mem") (g_dot P) (f_dot P) ?_; walk_at "evs"
  refine CallK.pure (by assumption) (dot_c P hW1 hW2 _ _ rfl sw sw) (by lia) (by simp) ?_; walk_at "evs"
  refine U.call (by assumption) (by walk_at "mem") (g_s_compare P) (f_s_compare P) ?_; walk_at "evs"
  refine CallK.pure (by assumption) (s_compare_c P hW1 _ _ (by lia) (by (clear nw; lia))) (by lia) (by simp) ?_; walk_at "evs"
  refine both_dec (fun hc => ?_) (fun hc => ?_)
  · have hle2 : dotI u u ≤ dotI (lessI v u m) (lessI v u m) := by unfold icmp at hc; split at hc <;> (try split at hc) <;> lia
    rw [if_pos hle2] at hg
    walk_at "evs"
    refine ⟨[_, _], rfl, by simp, ret_of ?_⟩
    rw [← hg]
  · have hlt : dotI (lessI v u m) (lessI v u m) < dotI u u := by unfold icmp at hc; split at hc <;> (try split at hc) <;> (omega)
    rw [if_neg (by lia)] at hg
    walk_at "evs"
    exact ⟨k, by lia, u, _, _, rfl, by lia, hl2, by lia, by lia, hg⟩
end

section -- Pl1
noncomputable def dealt (cards : List Int) (c : Nat) (m : Int) : Int := (if c + 1 ≤ cards.length then cards.getD c 0 else 5 * ((c : Int) + 1) + ((c : Int) + 1) / 3 + 2) % m
theorem dealt_c {G : Gl} (P : Pg G) (cards : List Int) (hl : cards.length ≤ 1000) (c : Nat) (hc : c ≤ 100000) (m : Int) (hm : 0 < m) :
    Fn G 1 275 [.mu 0, .d (.int m)] [[.int c, Li cards]] (.int (dealt cards c m)) [[.int ((c + 1 : Nat) : Int), Li cards]] := by
  refine Fn.here P 31 rfl rfl [(S "pack", false), (S "many", false)] [S "len"] 0 [S "pack", S "many"] (fun _ _ _ _ _ => rfl) (by decide +kernel) rfl (by decide) rfl rfl rfl (by decide +kernel) rfl rfl rfl rfl ?_
  intro C H
  walk_at "evs"
  refine Ex.setitem ?_
  walk_at "evs"
  walk_at "mu"
  walk_at "evs"
  refine SubK.list (.mu rfl) (by decide) (by decide) rfl ?_
  walk_at "evs"
  walk_at "mu"
  walk_at "evs"
  refine SetK.mu rfl (by decide) (by decide) (by simp) ?_
  walk_at "evs"
  walk_at "mu"
  walk_at "evs"
  refine SubK.list (.mu rfl) (by decide) (by decide) rfl ?_
  walk_at "evs"
  refine U.callB (by assumption) (by walk_at "mem") (b_len P) (.builtin _) ?_
  walk_at "evs"
  walk_at "mu"
  walk_at "evs"
  refine SubK.list (.mu rfl) (by decide) (by decide) rfl ?_
  walk_at "evs"
  refine CallK.lenLi ?_ (by lia)
  walk_at "evs"
  have fin : ∀ (k : Nat) (l : List D) (τ : St), ([[D.int ((c + 1 : Nat) : Int), Li cards]] : List (List D))[k]? = some l → τ.mu = [some [D.int ((c : Int) + 1), Li cards]] → τ.mu[k]? = some (some l) := by
    intro k l τ hk ht
    rw [ht]
    match k, hk with
    | 0, hk => cases hk; rfl
  refine both_dec (fun h => ?_) (fun h => ?_)
  · walk_at "evs"
    walk_at "mu"
    walk_at "evs"
    refine SubK.list (.mu rfl) (by decide) (by decide) rfl ?_
    walk_at "evs"
    walk_at "mu"
    walk_at "evs"
    refine SubK.list (.mu rfl) (by decide) (by decide) rfl ?_
    walk_at "evs"
    refine U.sub (xs := cards) .d (by lia) (by lia) (by lia) ?_
    walk_at "evs"
    refine BinK.mod hm ?_
    walk_at "evs"
    refine ⟨.inl ?_, fun k l hk => fin k l _ hk rfl⟩
    rw [dealt, if_pos (by lia), show ((c : Int) + 1 - 1).toNat = c by lia]
  · walk_at "evs"
    walk_at "mu"
    walk_at "evs"
    refine SubK.list (.mu rfl) (by decide) (by decide) rfl ?_
    refine BinK.mul (by decide) ?_
    walk_at "evs"
    walk_at "mu"
    walk_at "evs"
    refine SubK.list (.mu rfl) (by decide) (by decide) rfl ?_
    walk_at "evs"
    refine BinK.fdiv (by decide) (by decide) ?_
    walk_at "evs"
    refine BinK.mod hm ?_
    walk_at "evs"
    refine ⟨.inl ?_, fun k l hk => fin k l _ hk rfl⟩
    rw [dealt, if_neg (by lia)]
inductive JLimbs (N W : Nat) (n : Nat) (σ : St) : Prop where
  | mk (f : List Int) (v : Nat) (e0 : σ = ⟨[some (.d (.int v)), some (.d (.int W)), some (.mu 0)], [some (f.map D.int)]⟩) (e1 : f ++ dg (2 ^ W) v = dg (2 ^ W) N) (e2 : v = n)
theorem limbs_c {G : Gl} (P : Pg G) {W : Nat} (hW : 1 ≤ W) (hW2 : W ≤ 12) (N : Nat) (hN : (dg (2 ^ W) N).length ≤ 1000) : Fn G 1 282 [.d (.int N), .d (.int W)] [] (Li (dg (2 ^ W) N)) [] := by
  have hB := base_two hW
  have hBp := two_le hW
  have hBs := pow_small hW2
  refine Fn.here P 32 rfl rfl [(S "number", false), (S "w", false), (S "found", false)] [] 1 [S "number", S "w"] (fun _ _ _ _ _ => rfl) (by decide +kernel) rfl (by decide) rfl rfl rfl (by decide +kernel) rfl rfl rfl rfl ?_
  intro C H
  walk_at "evs"
  refine Ev.fresh (EvF.nil ?_); walk_at "evs"
  refine Ex.while (JLimbs N W) N ⟨[], N, rfl, rfl, rfl⟩ ?_
  rintro n _ ⟨f, v, rfl, hf, rfl⟩
  walk_at "evs"
  refine both_dec (fun hc => ?_) (fun hc => ?_)
  · have hv : 0 < v := by lia
    rw [dg_pos hB hv] at hf
    have hfl := congrArg List.length hf
    simp at hfl
    walk_at "evs"
    walk_at "app"; walk_at "evs"
    refine BinK.pow2 (by lia) ?_
    refine BinK.mod (by (clear hB; lia)) ?_
    refine ⟨_, rfl, rfl, by lia, ?_⟩
    walk_at "evs"
    refine BinK.pow2 (by lia) ?_
    refine BinK.fdiv (by (clear hB; lia)) (by lia) ?_
    walk_at "evs"
    have e1 : (v : Int) % 2 ^ W = ((v % 2 ^ W : Nat) : Int) := by push_cast; rfl
    have e2 : (v : Int) / 2 ^ W = ((v / 2 ^ W : Nat) : Int) := by push_cast; rfl
    rw [e1, e2]
    exact ⟨v / 2 ^ W, Nat.div_lt_self hv (by lia), _, _, rfl, by rw [List.append_assoc]; exact hf, rfl⟩
  · have hv : v = 0 := by lia
    subst hv
    rw [dg_zero, List.append_nil] at hf
    walk_at "evs"
    refine ⟨.inl ?_, by simp⟩
    rw [← hf]
end

section -- Pl2
theorem sum_dot : ∀ (xs ys : List Int), sumI (List.zipWith (fun x y => x * y) xs ys) = dotI xs ys
  | [], _ => by simp [sumI, dotI]
  | _ :: _, [] => by simp [sumI, dotI]
  | x :: xs, y :: ys => by simp only [List.zipWith_cons_cons, sumI, dotI, sum_dot xs ys]
theorem law_dot_c {G : Gl} (P : Pg G) (xs ys : List Int) (hl : xs.length ≤ 1000) (hx : ∀ x ∈ xs, x.natAbs < 2 ^ 64) : Fn G 1 292 [.d (Li xs), .d (Li ys)] [] (.int (dotI xs ys)) [] := by
  refine Fn.here P 34 rfl rfl [(S "one", false), (S "other", false)] [S "sum", S "zip"] 0 [S "one", S "other"] (fun _ _ _ _ _ => rfl) (by decide +kernel) rfl (by decide) rfl rfl rfl (by decide +kernel) rfl rfl rfl rfl ?_
  intro C H
  walk_at "evs"
  refine U.callB (by assumption) (by walk_at "mem") (b_sum P) (.builtin _) ?_
  walk_at "evs"
  refine U.comp2 (by assumption) [] [] [] [(S "x", false), (S "y", false)] rfl ⟨rfl, by decide +kernel, by decide +kernel, by decide +kernel, by decide +kernel, by decide +kernel, by decide, by decide +kernel⟩ rfl ?_; walk_at "evs"
  refine U.zip (by assumption) (by walk_at "mem") (b_zip P) ?_; walk_at "evs"
  refine ⟨_, _, rfl, by simp; lia, fun C' H' => ?_⟩
  refine CompK2.zip (r := fun x y => D.int (x * y)) ?_ ?_
  · intro x hxm y hym
    clear H
    walk_at "evs"
    refine BinK.mul (hx x hxm) ?_
    exact ⟨rfl, _, _, rfl⟩
  · intro a b
    refine ⟨rfl, ?_⟩
    walk_at "evs"
    have e : List.zipWith (fun x y => D.int (x * y)) xs ys = (List.zipWith (fun x y => x * y) xs ys).map D.int := by rw [List.map_zipWith]
    rw [e]
    refine CallK.sum H.ok.han ?_
    rw [sum_dot]
    walk_at "evs"
    exact ret_of rfl
theorem plain_c {G : Gl} (P : Pg G) {W : Nat} (hW : 1 ≤ W) (hW2 : W ≤ 12) (z : Int) (hz : z.natAbs < 2 ^ 400) : Fn G 1 287 [.d (sg W z), .d (.int W)] [] (.int z) [] := by
  have hB := base_two hW
  have hBs := pow_small hW2
  have hl := len_ok hW hz
  have hv := val_dg hB z.natAbs
  have hm := lm_dg hB z.natAbs
  rw [castB] at hv hm
  refine Fn.here P 33 rfl rfl [(S "x", false), (S "w", true), (S "size", false)] [S "sum", S "enumerate"] 1 [S "x", S "w"] (fun _ _ _ _ _ => rfl) (by decide +kernel) rfl (by decide) rfl rfl rfl (by decide +kernel) rfl rfl rfl rfl ?_
  intro C H
  walk_at "evs"
  refine U.callB (by assumption) (by walk_at "mem") (b_sum P) (.builtin _) ?_
  walk_at "evs"
  refine U.comp2 (by assumption) [1] [S "w"] [] [(S "at", false), (S "limb", false), (S "w", true)] rfl ⟨rfl, by decide +kernel, by decide +kernel, by decide +kernel, by decide +kernel, by decide +kernel, by decide, by decide +kernel⟩ rfl ?_; walk_at "evs"
  refine U.enum (by assumption) (by walk_at "mem") (b_enumerate P) ?_; walk_at "evs"
  refine ⟨_, rfl, by simp; lia, fun C' H' => ?_⟩
  refine CompK2.enum (r := fun k x => D.int (x * 2 ^ (W * k))) ?_ ?_
  · intro k x hxm hk
    have hx := hm x hxm
    clear H
    walk_at "evs"
    refine BinK.mul (by (clear hW; omega)) ?_
    rw [show (W : Int) * (k : Int) = ((W * k : Nat) : Int) by push_cast; rfl]
    have hwk : W * k ≤ 12 * 1000 := Nat.mul_le_mul hW2 (by lia)
    refine BinK.pow2 (by lia) ?_
    refine BinK.mul (by lia) ?_
    exact ⟨rfl, _, _, rfl⟩
  · intro a b
    refine ⟨rfl, ?_⟩
    walk_at "evs"
    have e : ((dg (2 ^ W) z.natAbs).zipIdx 0).map (fun p => D.int (p.1 * 2 ^ (W * p.2))) = (((dg (2 ^ W) z.natAbs).zipIdx 0).map fun p => p.1 * 2 ^ (W * p.2)).map D.int := by rw [List.map_map]; rfl
    rw [e]
    refine CallK.sum H.ok.han ?_
    rw [sum_val, hv, Int.pow_zero, Int.one_mul]
    walk_at "evs"
    refine EvB.val ?_
    walk_at "evs"
    first | refine both_dec (fun hc => ?_) (fun hc => ?_) | refine both_eq (fun hc => ?_) (fun hc => ?_) | refine both_ne (fun hc => ?_) (fun hc => ?_) | refine ⟨fun hc => ?_, fun hc => ?_⟩
    · walk_at "evs"
      refine ret_of ?_
      congr 1; lia
    · walk_at "evs"
      refine ret_of ?_
      congr 1; lia
end

section -- Pl3
noncomputable abbrev Tn := Nat × List Int × List Int
noncomputable def turnStep (cards : List Int) (s : Tn) : Tn :=
  if dealt cards s.1 4 = 0 then (s.1 + 1 + 1, List.zipWith (fun x y => x + (dealt cards (s.1 + 1) 5 - 2) * y) s.2.1 s.2.2, s.2.2)
  else if dealt cards s.1 4 = 1 then (s.1 + 1 + 1, s.2.1, List.zipWith (fun x y => y + (dealt cards (s.1 + 1) 5 - 2) * x) s.2.1 s.2.2)
  else if dealt cards s.1 4 = 2 then (s.1 + 1 + 1, s.2.2, s.2.1)
  else (s.1 + 1 + 1, s.2.1.map (fun x => 0 - x), s.2.2)
noncomputable def turnN (cards : List Int) : Nat → Tn → Tn
  | 0, s => s
  | n + 1, s => turnStep cards (turnN cards n s)
theorem dealt_lt (cards : List Int) (c : Nat) {m : Int} (hm : 0 < m) : 0 ≤ dealt cards c m ∧ dealt cards c m < m := ⟨Int.emod_nonneg _ (by lia), Int.emod_lt_of_pos _ hm⟩
inductive JTurn (cards u0 v0 : List Int) (c : Nat) (k : Nat) (σ : St) : Prop where
  | mk (c' : Nat) (u v : List Int) (o1 o2 o3 : Option V) (e0 : σ = ⟨[some (.mu 0), some (.d (Li u)), some (.d (Li v)), o1, o2, o3], [some [.int c', Li cards]]⟩) (e1 : (c', u, v) = turnN cards k (c + 1, u0, v0)) (e2 : u.length ≤ 1000) (e3 : v.length ≤ 1000) (e4 : c' ≤ 1001 + 2 * k)
theorem turned_c {G : Gl} (P : Pg G) (cards : List Int) (hl : cards.length ≤ 1000) (c : Nat) (hc : c ≤ 1000) (u0 v0 : List Int) (hu : u0.length ≤ 1000) (hv : v0.length ≤ 1000) (s : Tn) (hs : s = turnN cards (dealt cards c 5).toNat (c + 1, u0, v0)) :
    Fn G 2 297 [.mu 0, .d (Li u0), .d (Li v0)] [[.int c, Li cards]] (.tup [Li s.2.1, Li s.2.2]) [[.int s.1, Li cards]] := by
  have hn := dealt_lt cards c (show (0 : Int) < 5 by decide)
  refine Fn.here P 35 rfl rfl [(S "pack", false), (S "one", false), (S "other", false), (S "turn", false), (S "form", false), (S "many", true)] [S "range", S "_law_dealt", S "zip"] 3 [S "pack", S "one", S "other"] (fun _ _ _ _ _ _ => rfl) (by decide +kernel) rfl (by decide) rfl rfl rfl (by decide +kernel) rfl rfl rfl rfl ?_
  intro C H
  walk_at "evs"
  refine U.for (by assumption) (by walk_at "at") ?_
  refine U.range1 (by assumption) (by walk_at "mem") (b_range P) ?_; walk_at "evs"
  refine U.call (by assumption) (by walk_at "mem") (g_law_dealt P) (f_law_dealt P) ?_; walk_at "evs"
  walk_at "mu"; walk_at "evs"
  refine CallK.one (by assumption) (dealt_c P cards hl c (by lia) 5 (by decide)) (by lia) rfl rfl (by simp) ?_
  walk_at "evs"
  refine ⟨_, rfl, by lia, by lia, ?_⟩
  refine ForK.rng (JTurn cards u0 v0 c) ⟨c + 1, u0, v0, _, _, _, rfl, rfl, hu, hv, by lia⟩ ?_ ?_
  · rintro k _ hk ⟨c', u, v, o1, o2, o3, rfl, ht, hu, hv, hcc⟩
    have hst : turnN cards (k + 1) (c + 1, u0, v0) = turnStep cards (c', u, v) := by rw [turnN, ← ht]
    rw [turnStep] at hst
    dsimp only at hst
    walk_at "evs"
    refine U.untup (hw := unswapped2 H.ok (by rfl) (H.local (i := 4) rfl) (H.cell (i := 5) rfl)) (by assumption) (.cons (by walk_at "at") (.cons (by walk_at "at") (.nil))) ?_
    walk_at "evs"
    refine U.call (by assumption) (by walk_at "mem") (g_law_dealt P) (f_law_dealt P) ?_; walk_at "evs"
    walk_at "mu"; walk_at "evs"
    refine CallK.one (by assumption) (dealt_c P cards hl c' (by lia) 4 (by decide)) (by lia) rfl rfl (by simp) ?_
    walk_at "evs"
    refine U.call (by assumption) (by walk_at "mem") (g_law_dealt P) (f_law_dealt P) ?_; walk_at "evs"
    walk_at "mu"; walk_at "evs"
    refine CallK.one (by assumption) (dealt_c P cards hl (c' + 1) (by lia) 5 (by decide)) (by lia) rfl rfl (by simp) ?_
    walk_at "evs"
    refine ⟨[_, _], rfl, by simp, ?_⟩
    refine ⟨_, _, rfl, .tup _, rfl, ?_⟩
    have hm := dealt_lt cards (c' + 1) (show (0 : Int) < 5 by decide)
    generalize dealt cards c' 4 = form at *
    have hm2 : (dealt cards (c' + 1) 5 - 2).natAbs < 2 ^ 64 := by (omega)
    generalize dealt cards (c' + 1) 5 - 2 = m at *
    walk_at "evs"
    refine both_eq (fun h => ?_) (fun h => ?_)
    · rw [if_pos h] at hst
      walk_at "evs"
      refine U.setComp2 (by assumption) (by walk_at "at") [5] [S "many"] [] [(S "x", false), (S "y", false), (S "many", true)] rfl ⟨rfl, by decide +kernel, by decide +kernel, by decide +kernel, by decide +kernel, by decide +kernel, by decide, by decide +kernel⟩ rfl ?_ (hl := by rfl) (hnm := by decide +kernel); walk_at "evs"
      refine U.zip (by assumption) (by walk_at "mem") (b_zip P) ?_; walk_at "evs"
      refine ⟨_, _, rfl, by simp; lia, fun C' H' => ?_⟩
      refine CompK2.zip (r := fun x y => D.int (x + m * y)) ?_ ?_
      · intro x _ y _
        clear H
        walk_at "evs"
        refine BinK.mul (by (omega)) ?_
        walk_at "evs"
        exact ⟨rfl, _, _, rfl⟩
      · intro a b
        have e : List.zipWith (fun x y => D.int (x + m * y)) u v = (List.zipWith (fun x y => x + m * y) u v).map D.int := by rw [List.map_zipWith]
        rw [e]
        refine ⟨rfl, ?_⟩
        walk_at "evs"
        exact ⟨c' + 1 + 1, _, _, _, _, _, rfl, hst.symm, by simp; lia, by (omega), by lia⟩
    rw [if_neg h] at hst
    walk_at "evs"
    refine both_eq (fun h => ?_) (fun h => ?_)
    · rw [if_pos h] at hst
      walk_at "evs"
      refine U.setComp2 (by assumption) (by walk_at "at") [5] [S "many"] [] [(S "x", false), (S "y", false), (S "many", true)] rfl ⟨rfl, by decide +kernel, by decide +kernel, by decide +kernel, by decide +kernel, by decide +kernel, by decide, by decide +kernel⟩ rfl ?_ (hl := by rfl) (hnm := by decide +kernel); walk_at "evs"
      refine U.zip (by assumption) (by walk_at "mem") (b_zip P) ?_; walk_at "evs"
      refine ⟨_, _, rfl, by simp; lia, fun C' H' => ?_⟩
      refine CompK2.zip (r := fun x y => D.int (y + m * x)) ?_ ?_
      · intro x _ y _
        clear H
        walk_at "evs"
        refine BinK.mul (by (omega)) ?_
        walk_at "evs"
        exact ⟨rfl, _, _, rfl⟩
      · intro a b
        have e : List.zipWith (fun x y => D.int (y + m * x)) u v = (List.zipWith (fun x y => y + m * x) u v).map D.int := by rw [List.map_zipWith]
        rw [e]
        refine ⟨rfl, ?_⟩
        walk_at "evs"
        exact ⟨c' + 1 + 1, _, _, _, _, _, rfl, hst.symm, by (omega), by simp; lia, by lia⟩
    rw [if_neg h] at hst
    walk_at "evs"
    refine both_eq (fun h => ?_) (fun h => ?_)
    · rw [if_pos h] at hst
      walk_at "evs"
      refine U.swap2 (by assumption) (by walk_at "at") (by walk_at "at") ?_; walk_at "evs"
      refine ⟨_, _, rfl, ?_⟩
      walk_at "evs"
      exact ⟨c' + 1 + 1, _, _, _, _, _, rfl, hst.symm, by (omega), by (omega), by lia⟩
    · rw [if_neg h] at hst
      walk_at "evs"
      refine U.setComp1 (by assumption) (by walk_at "at") [] [] [] [(S "x", false)] rfl ⟨rfl, by decide +kernel, by decide +kernel, by decide +kernel, by decide +kernel, by decide +kernel, by decide, by decide +kernel⟩ rfl ?_ (hl := by rfl) (hnm := by decide +kernel); walk_at "evs"
      refine EvI.list H.ok ?_
      walk_at "evs"
      refine ⟨_, rfl, by simp; lia, fun C' H' => ?_⟩
      refine CompK.map (r := fun x => D.int (0 - x)) ?_ ?_
      · intro x _
        clear H
        walk_at "evs"
        exact ⟨rfl, _, rfl⟩
      · intro a
        have e : u.map (fun x => D.int (0 - x)) = (u.map (fun x => 0 - x)).map D.int := by rw [List.map_map]; rfl
        rw [e]
        refine ⟨rfl, ?_⟩
        walk_at "evs"
        exact ⟨c' + 1 + 1, _, _, _, _, _, rfl, hst.symm, by simp; (omega), by (omega), by lia⟩
  · rintro _ ⟨c', u, v, o1, o2, o3, rfl, ht, hu, hv, hcc⟩
    rw [← ht] at hs
    subst hs
    walk_at "evs"
    refine ⟨[_, _], rfl, by simp, .inl rfl, ?_⟩
    intro k l hk
    match k, hk with
    | 0, hk => cases hk; rfl
end

section -- Pl4
theorem bulk_ints : ∀ xs : List Int, PyData.bulkAll (toPs (xs.map D.int)) = xs.length
  | [] => rfl
  | x :: l => by simp only [List.map_cons, toPs, toP, PyData.bulkAll, PyData.bulk, bulk_ints l, List.length_cons]; lia
theorem short_ints : ∀ xs : List Int, (∀ x ∈ xs, x.natAbs < 4096) → PyData.leavesShortAll 13 (toPs (xs.map D.int)) = true
  | [], _ => rfl
  | x :: l, h => by
    have h1 := PyData.shown_int_le (i := x) (by have := h x List.mem_cons_self; lia)
    simp only [List.map_cons, toPs, toP, PyData.leavesShortAll, PyData.leavesShort, short_ints l (fun y hy => h y (List.mem_cons_of_mem _ hy)), Bool.and_true]
    exact decide_eq_true h1
theorem show_ints : ∀ xs : List Int, (∀ x ∈ xs, x.natAbs < 4096) → PyData.showableAll (toPs (xs.map D.int)) = true
  | [], _ => rfl
  | x :: l, h => by
    have h1 : x.natAbs.log2 < 1920 := by
      have := h x List.mem_cons_self
      rcases Nat.eq_zero_or_pos x.natAbs with z | z
      · rw [z]; decide
      · exact (Nat.log2_lt (by lia)).mpr (Nat.lt_of_lt_of_le this (by
          calc 4096 = 2 ^ 12 := by decide
            _ ≤ 2 ^ 1920 := Nat.pow_le_pow_right (by decide) (by decide)))
    simp only [List.map_cons, toPs, toP, PyData.showableAll, PyData.showable, show_ints l (fun y hy => h y (List.mem_cons_of_mem _ hy)), Bool.and_true]
    exact decide_eq_true h1
section
variable {W : Nat} (hW : 1 ≤ W) (hW2 : W ≤ 12)
include hW hW2
theorem dg_small (n : Nat) : ∀ x ∈ dg (2 ^ W) n, x.natAbs < 4096 := fun x hx => by
  have h1 := lm_dg (base_two hW) n x hx
  rw [castB] at h1
  have := pow_small hW2
  lia
theorem row_facts : ∀ xs : List Int, (∀ x ∈ xs, x.natAbs < 2 ^ 400) → D.plains (xs.map (sg W)) = true ∧ PyData.showableAll (toPs (xs.map (sg W))) = true ∧ PyData.depthAll (toPs (xs.map (sg W))) ≤ 2 ∧ PyData.leavesShortAll 13 (toPs (xs.map (sg W))) = true ∧ PyData.bulkAll (toPs (xs.map (sg W))) ≤ xs.length * 403
  | [], _ => ⟨rfl, rfl, by simp [toPs, PyData.depthAll], rfl, by simp [toPs, PyData.bulkAll]⟩
  | x :: l, h => by
    obtain ⟨h1, h2, h3, h4, h5⟩ := row_facts l (fun y hy => h y (List.mem_cons_of_mem _ hy))
    have ds := dg_small hW hW2 x.natAbs
    have dl := dg_len2 hW (h x List.mem_cons_self)
    have a1 := plains_ints (dg (2 ^ W) x.natAbs)
    have a2 := show_ints _ ds
    have a3 := depth_ints (dg (2 ^ W) x.natAbs)
    have a4 := short_ints _ ds
    have a5 := bulk_ints (dg (2 ^ W) x.natAbs)
    refine ⟨?_, ?_, ?_, ?_, ?_⟩
    · simp only [List.map_cons, D.plains, D.plain, a1, h1, Bool.and_self]
    · simp only [List.map_cons, toPs, toP, PyData.showableAll, PyData.showable, a2, h2, Bool.and_self]
    · simp only [List.map_cons, toPs, toP, PyData.depthAll, PyData.depth, a3]; lia
    · simp only [List.map_cons, toPs, toP, PyData.leavesShortAll, PyData.leavesShort, a4, h4, Bool.and_self]
    · simp only [List.map_cons, toPs, toP, PyData.bulkAll, PyData.bulk, a5, List.length_cons, Nat.succ_mul]; (omega)
end
theorem pair_c {G : Gl} (P : Pg G) {W : Nat} (hW : 2 ≤ W) (hW2 : W ≤ 12) (xs ys : List Int) (hl : xs.length = ys.length) (hl2 : xs.length ≤ 10) (hx : dotI xs xs + dotI ys ys < 2 ^ 30) (N : Nat) (hN : dotI xs xs + dotI ys ys < N) (p q : List Int) (hR : gaussI N xs ys = (p, q)) (hp : Sm p) (hq : Sm q) :
    Fn G 9 302 [.d (Li xs), .d (Li ys), .d (.int W)] [] (.list [Li p, Li q]) [] := by
  have hW1 : 1 ≤ W := by lia
  have nx := dotI_self_nonneg xs
  have ny := dotI_self_nonneg ys
  have sx := sm_of hl2 (show dotI xs xs ≤ 2 ^ 30 by lia) (by lia)
  have sy := sm_of (by lia) (show dotI ys ys ≤ 2 ^ 30 by lia) (by lia)
  have gp := gauss_pair_c P hW hW2 xs ys hl hl2 hx N hN
  rw [hR] at gp
  have fx := row_facts hW1 hW2 xs (fun x hx => by have := sx.2 x hx; lia)
  have fy := row_facts hW1 hW2 ys (fun x hx => by have := sy.2 x hx; lia)
  have lx := sx.1
  have ly := sy.1
  have rp : D.plains [Rw W xs, Rw W ys] = true := by simp only [D.plains, D.plain, fx.1, fy.1, Bool.and_self]
  have rs : (toP (.list [Rw W xs, Rw W ys])).showable = true := by simp only [toP, toPs, PyData.showable, PyData.showableAll, fx.2.1, fy.2.1, Bool.and_self]
  have rd : (toP (.list [Rw W xs, Rw W ys])).depth ≤ 6 := by simp only [toP, toPs, PyData.depth, PyData.depthAll]; (omega)
  have rz : (toP (.list [Rw W xs, Rw W ys])).shown.length ≤ sizeLine := PyData.shown_fits_bulk (B := 13) (by decide) (by decide)
    (by simp only [toP, toPs, PyData.leavesShort, PyData.leavesShortAll, fx.2.2.2.1, fy.2.2.2.1, Bool.and_self])
    (by simp only [toP, toPs, PyData.bulk, PyData.bulkAll]; (omega))
  refine Fn.here P 36 rfl rfl [(S "one", false), (S "other", false), (S "w", true), (S "rows", false), (S "kept", false), (S "found", false)] [S "repr", S "gauss_pair", S "mul_school", S "divrem_school"] 3 [S "one", S "other", S "w"] (fun _ _ _ _ _ _ => rfl) (by decide +kernel) rfl (by decide) rfl rfl rfl (by decide +kernel) rfl rfl rfl rfl ?_
  intro C H
  have hu := H.uni
  walk_at "evs"
  refine U.setComp1 (by assumption) (by walk_at "at") [2] [S "w"] [] [(S "row", false), (S "w", true)] rfl ⟨rfl, by decide +kernel, by decide +kernel, by decide +kernel, by decide +kernel, by decide +kernel, by decide, by decide +kernel⟩ rfl ?_ (hl := by rfl) (hnm := by decide +kernel); walk_at "evs"
  refine EvI.tup H.ok ?_
  walk_at "evs"
  refine ⟨[_, _], rfl, by simp, ?_⟩
  refine ⟨_, rfl, by simp, fun C' H' => ?_⟩
  refine CompK.map (xs := [xs, ys]) (f := fun row => Li row) (r := fun row => Rw W row) ?_ ?_
  · intro row hrow
    have hb : ∀ x ∈ row, x.natAbs < 2 ^ 90 := by
      simp at hrow
      rcases hrow with rfl | rfl
      · exact sx.2
      · exact sy.2
    have hrl : row.length ≤ 10 := by
      simp at hrow
      rcases hrow with rfl | rfl
      · exact lx
      · exact ly
    clear H hu
    refine U.comp1 (by assumption) [1] [S "w"] [S "_law_limbs", S "abs"] [(S "x", false), (S "w", true)] rfl ⟨rfl, by decide +kernel, by decide +kernel, by decide +kernel, by decide +kernel, by decide +kernel, by decide, by decide +kernel⟩ rfl ?_; walk_at "evs"
    refine EvI.list H'.ok ?_
    walk_at "evs"
    refine ⟨_, rfl, by simp; lia, fun C2 H2 => ?_⟩
    refine CompK.map (xs := row) (f := D.int) (r := fun x => sg W x) ?_ ?_
    · intro x hx
      clear H'
      have hxl := len_ok hW1 (show x.natAbs < 2 ^ 400 by have := hb x hx; lia)
      walk_at "evs"
      refine U.call (by assumption) (by walk_at "mem") (g_law_limbs P) (f_law_limbs P) ?_; walk_at "evs"
      refine U.callB (by assumption) (by walk_at "mem") (b_abs P) (.builtin _) ?_
      walk_at "evs"
      refine CallK.abs ?_
      walk_at "evs"
      refine CallK.pure (by assumption) (limbs_c P hW1 hW2 x.natAbs hxl) (by lia) (by simp) ?_; walk_at "evs"
      refine ⟨[_, _], rfl, by simp, ?_⟩
      exact ⟨rfl, _, rfl⟩
    · intro a
      exact ⟨rfl, rfl, _, rfl⟩
  intro a
  refine ⟨rfl, ?_⟩
  walk_at "evs"
  refine U.callB (by assumption) (by walk_at "mem") (b_repr P) (.builtin _) ?_
  walk_at "evs"
  refine CallK.repr H.grd rp rs rd (by lia) rz ?_
  walk_at "evs"
  refine U.call (by assumption) (by walk_at "mem") (g_gauss_pair P) (f_gauss_pair P) ?_; walk_at "evs"
  refine SubK.list .d (by decide) (by decide) rfl ?_
  walk_at "evs"
  refine SubK.list .d (by decide) (by decide) rfl ?_
  walk_at "evs"
  refine U.glo (by assumption) (by walk_at "mem") (g_mul_school P) ?_; walk_at "evs"
  refine U.glo (by assumption) (by walk_at "mem") (g_divrem_school P) ?_; walk_at "evs"
  refine CallK.pure (by assumption) (gp) (by lia) (by simp) ?_; walk_at "evs"
  refine U.callB (by assumption) (by walk_at "mem") (b_repr P) (.builtin _) ?_
  walk_at "evs"
  refine CallK.repr H.grd rp rs rd (by lia) rz ?_
  walk_at "evs"
  refine CmpK.neStr ?_
  walk_at "evs"
  refine ⟨fun hc => absurd hc (by simp), fun _ => ?_⟩
  refine U.comp1 (by assumption) [2] [S "w"] [] [(S "row", false), (S "w", true)] rfl ⟨rfl, by decide +kernel, by decide +kernel, by decide +kernel, by decide +kernel, by decide +kernel, by decide, by decide +kernel⟩ rfl ?_; walk_at "evs"
  refine EvI.tup H.ok ?_
  walk_at "evs"
  refine ⟨_, rfl, by simp, fun C' H' => ?_⟩
  refine CompK.map (xs := [p, q]) (f := fun row => Rw W row) (r := fun row => Li row) ?_ ?_
  · intro row hrow
    have hr : Sm row := by
      simp at hrow
      rcases hrow with rfl | rfl
      · exact hp
      · exact hq
    have hrl := hr.1
    clear H hu
    refine U.comp1 (by assumption) [1] [S "w"] [S "_law_plain"] [(S "x", false), (S "w", true)] rfl ⟨rfl, by decide +kernel, by decide +kernel, by decide +kernel, by decide +kernel, by decide +kernel, by decide, by decide +kernel⟩ rfl ?_; walk_at "evs"
    refine EvI.list H'.ok ?_
    walk_at "evs"
    refine ⟨_, rfl, by simp; lia, fun C2 H2 => ?_⟩
    refine CompK.map (xs := row) (f := fun x => sg W x) (r := D.int) ?_ ?_
    · intro x hx
      clear H'
      have hxb := hr.2 x hx
      walk_at "evs"
      refine U.call (by assumption) (by walk_at "mem") (g_law_plain P) (f_law_plain P) ?_; walk_at "evs"
      refine CallK.pure (by assumption) (plain_c P hW1 hW2 x (by lia)) (by lia) (by simp) ?_; walk_at "evs"
      exact ⟨rfl, _, rfl⟩
    · intro a
      exact ⟨rfl, rfl, _, rfl⟩
  intro a
  exact ⟨rfl, ret_of rfl⟩
end

section -- Pl5
noncomputable def sizesI (u v : List Int) : List Int := [dotI u u, dotI v v, ((dotI u v).natAbs : Int)]
theorem sizes_c {G : Gl} (P : Pg G) (u v : List Int) (hu : u.length ≤ 1000) (hv : v.length ≤ 1000) (hu2 : ∀ x ∈ u, x.natAbs < 2 ^ 64) (hv2 : ∀ x ∈ v, x.natAbs < 2 ^ 64) : Fn G 2 309 [.d (.list [Li u, Li v])] [] (Li (sizesI u v)) [] := by
  refine Fn.here P 37 rfl rfl [(S "pair", false)] [S "_law_dot", S "abs"] 0 [S "pair"] (fun _ _ _ _ => rfl) (by decide +kernel) rfl (by decide) rfl rfl rfl (by decide +kernel) rfl rfl rfl rfl ?_
  intro C H
  walk_at "evs"
  refine Ev.frozen (EvF.list ?_)
  walk_at "evs"
  refine U.call (by assumption) (by walk_at "mem") (g_law_dot P) (f_law_dot P) ?_; walk_at "evs"
  refine SubK.list .d (by decide) (by decide) rfl ?_
  walk_at "evs"
  refine SubK.list .d (by decide) (by decide) rfl ?_
  walk_at "evs"
  refine CallK.pure (by assumption) (law_dot_c P u u hu hu2) (by lia) (by simp) ?_; walk_at "evs"
  refine U.call (by assumption) (by walk_at "mem") (g_law_dot P) (f_law_dot P) ?_; walk_at "evs"
  refine SubK.list .d (by decide) (by decide) rfl ?_
  walk_at "evs"
  refine SubK.list .d (by decide) (by decide) rfl ?_
  walk_at "evs"
  refine CallK.pure (by assumption) (law_dot_c P v v hv hv2) (by lia) (by simp) ?_; walk_at "evs"
  refine U.callB (by assumption) (by walk_at "mem") (b_abs P) (.builtin _) ?_
  walk_at "evs"
  refine U.call (by assumption) (by walk_at "mem") (g_law_dot P) (f_law_dot P) ?_; walk_at "evs"
  refine SubK.list .d (by decide) (by decide) rfl ?_
  walk_at "evs"
  refine SubK.list .d (by decide) (by decide) rfl ?_
  walk_at "evs"
  refine CallK.pure (by assumption) (law_dot_c P u v hu hu2) (by lia) (by simp) ?_; walk_at "evs"
  refine CallK.abs ?_
  walk_at "evs"
  exact ⟨[_, _, _], rfl, by simp, ret_of rfl⟩
noncomputable def sqI (a b : Int) (u v : List Int) : Int := sumI (List.zipWith (fun x y => (a * x + b * y) ^ 2) u v)
theorem BinK.sq {C : Cx} {σ : St} {K : V → St → Prop} {i : Int} (hi : i.natAbs < 2 ^ 64) (h : K (.d (.int (i ^ 2))) σ) : BinK C .Pow (.d (.int i)) (.d (.int 2)) σ K :=
  BinK.pow (by decide) (by have := intBits_le hi; lia) h
inductive JShort1 (u v : List Int) (k : Nat) (σ : St) : Prop where
  | mk (o1 o2 o3 : Option V) (e0 : σ = ⟨[some (.d (Li u)), some (.d (Li v)), o1, o2, o3], []⟩)
inductive JShort2 (u v : List Int) (a : Int) (k : Nat) (σ : St) : Prop where
  | mk (o2 o3 : Option V) (e0 : σ = ⟨[some (.d (Li u)), some (.d (Li v)), some (.d (.int a)), o2, o3], []⟩)
theorem shortest_c {G : Gl} (P : Pg G) (u v : List Int) (hu : u.length ≤ 1000) (hv : v.length ≤ 1000) (hu2 : ∀ x ∈ u, x.natAbs < 2 ^ 60) (hv2 : ∀ x ∈ v, x.natAbs < 2 ^ 60)
    (hs : ∀ a b : Int, -3 ≤ a → a ≤ 3 → -3 ≤ b → b ≤ 3 → ((a ≠ 0 ∨ b ≠ 0) → dotI u u ≤ sqI a b u v) ∧ (b ≠ 0 → dotI v v ≤ sqI a b u v)) : Fn G 2 314 [.d (Li u), .d (Li v)] [] (.bool true) [] := by
  refine Fn.here P 38 rfl rfl [(S "one", false), (S "other", false), (S "x", true), (S "y", true), (S "size", false)] [S "range", S "sum", S "zip", S "_law_dot"] 3 [S "one", S "other"] (fun _ _ _ _ _ => rfl) (by decide +kernel) rfl (by decide) rfl rfl rfl (by decide +kernel) rfl rfl rfl rfl ?_
  intro C H
  walk_at "evs"
  refine U.for (by assumption) (by walk_at "at") ?_
  refine U.range2 (by assumption) (by walk_at "mem") (b_range P) ?_; walk_at "evs"
  refine ⟨_, _, rfl, by decide, by decide, by decide, by decide, ?_⟩
  refine ForK.rng (JShort1 u v) ⟨_, _, _, rfl⟩ ?_ ?_
  · rintro k _ hk ⟨o1, o2, o3, rfl⟩
    have hk7 : k < 7 := hk
    have e : ((0 : Int) - 3 + k * 1) = (k : Int) - 3 := by lia
    rw [e]
    obtain ⟨a, ha⟩ : ∃ a : Int, a = (k : Int) - 3 := ⟨_, rfl⟩
    rw [← ha]
    walk_at "evs"
    refine U.for (by assumption) (by walk_at "at") ?_
    refine U.range2 (by assumption) (by walk_at "mem") (b_range P) ?_; walk_at "evs"
    refine ⟨_, _, rfl, by decide, by decide, by decide, by decide, ?_⟩
    refine ForK.rng (JShort2 u v a) ⟨_, _, rfl⟩ ?_ ?_
    · rintro j _ hj ⟨o2, o3, rfl⟩
      have hj7 : j < 7 := hj
      have e : ((0 : Int) - 3 + j * 1) = (j : Int) - 3 := by lia
      rw [e]
      obtain ⟨b, hb⟩ : ∃ b : Int, b = (j : Int) - 3 := ⟨_, rfl⟩
      rw [← hb]
      have hab := hs a b (by lia) (by lia) (by lia) (by lia)
      walk_at "evs"
      refine U.callB (by assumption) (by walk_at "mem") (b_sum P) (.builtin _) ?_
      walk_at "evs"
      refine U.comp2 (by assumption) [2, 3] [S "x", S "y"] [] [(S "a", false), (S "b", false), (S "x", true), (S "y", true)] rfl ⟨rfl, by decide +kernel, by decide +kernel, by decide +kernel, by decide +kernel, by decide +kernel, by decide, by decide +kernel⟩ rfl ?_; walk_at "evs"
      refine U.zip (by assumption) (by walk_at "mem") (b_zip P) ?_; walk_at "evs"
      refine ⟨_, _, rfl, by simp; lia, fun C' H' => ?_⟩
      refine CompK2.zip (r := fun x y => D.int ((a * x + b * y) ^ 2)) ?_ ?_
      · intro x hx y hy
        have bx := hu2 x hx
        have by' := hv2 y hy
        have m1 : (a * x).natAbs ≤ 3 * 2 ^ 60 := by rw [Int.natAbs_mul]; exact Nat.mul_le_mul (by lia) (by lia)
        have m2 : (b * y).natAbs ≤ 3 * 2 ^ 60 := by rw [Int.natAbs_mul]; exact Nat.mul_le_mul (by lia) (by lia)
        clear H
        walk_at "evs"
        refine BinK.mul (by lia) ?_
        walk_at "evs"
        refine BinK.mul (by lia) ?_
        walk_at "evs"
        refine BinK.sq (by (omega)) ?_
        exact ⟨rfl, _, _, rfl⟩
      · intro a1 b1
        have e : List.zipWith (fun x y => D.int ((a * x + b * y) ^ 2)) u v = (List.zipWith (fun x y => (a * x + b * y) ^ 2) u v).map D.int := by rw [List.map_zipWith]
        rw [e]
        refine ⟨rfl, ?_⟩
        walk_at "evs"
        refine CallK.sum H.ok.han ?_
        rw [show sumI (List.zipWith (fun x y => (a * x + b * y) ^ 2) u v) = sqI a b u v from rfl]
        refine Exs.cons (Ex.ite (EvB.mid (fun c σ' => c = false ∧ σ' = ⟨[some (.d (Li u)), some (.d (Li v)), some (.d (.int a)), some (.d (.int b)), some (.d (.int (sqI a b u v)))], []⟩) ?_ ?_))
        · refine EvB.bool (EvBs.orcons (EvB.mid (fun c σ' => c = false ∧ σ' = ⟨[some (.d (Li u)), some (.d (Li v)), some (.d (.int a)), some (.d (.int b)), some (.d (.int (sqI a b u v)))], []⟩) ?_ ?_))
          · walk_at "evs"
            refine U.call (by assumption) (by walk_at "mem") (g_law_dot P) (f_law_dot P) ?_; walk_at "evs"
            refine CallK.pure (by assumption) (law_dot_c P u u hu (fun x hx => by have := hu2 x hx; lia)) (by lia) (by simp) ?_; walk_at "evs"
            refine both_dec (fun h => ?_) (fun h => ⟨rfl, rfl⟩)
            walk_at "evs"
            refine both_ne (fun h2 => ?_) (fun h2 => ?_)
            · have := hab.1 (.inl h2); (exfalso; clear h2; lia)
            walk_at "evs"
            refine both_ne (fun h2 => ?_) (fun h2 => ?_)
            · have := hab.1 (.inr h2); (exfalso; clear h2; lia)
            walk_at "evs"
            exact ⟨rfl, rfl⟩
          · rintro _ _ ⟨rfl, rfl⟩
            walk_at "evs"
            refine U.call (by assumption) (by walk_at "mem") (g_law_dot P) (f_law_dot P) ?_; walk_at "evs"
            refine CallK.pure (by assumption) (law_dot_c P v v hv (fun x hx => by have := hv2 x hx; lia)) (by lia) (by simp) ?_; walk_at "evs"
            refine both_dec (fun h => ?_) (fun h => ?_)
            · walk_at "evs"
              refine both_ne (fun h2 => ?_) (fun h2 => ?_)
              · have := hab.2 h2; (exfalso; clear h2; lia)
              walk_at "evs"
              exact ⟨rfl, rfl⟩
            · walk_at "evs"
              exact ⟨rfl, rfl⟩
        · rintro _ _ ⟨rfl, rfl⟩
          walk_at "evs"
          exact ⟨_, _, rfl⟩
    · rintro _ ⟨o2, o3, rfl⟩
      walk_at "evs"
      exact ⟨_, _, _, rfl⟩
  · rintro _ ⟨o1, o2, o3, rfl⟩
    walk_at "evs"
    exact ret_of rfl
end

section -- Pl6
theorem multiple_c {G : Gl} (P : Pg G) (row other : List Int) (m : Int) (hl : other.length ≤ 1000) (hrow : row = other.map (fun y => m * y)) (hb1 : ∀ x ∈ row, x.natAbs < 2 ^ 60) (hb2 : ∀ y ∈ other, y.natAbs < 1073741824) : Fn G 1 319 [.d (Li row), .d (Li other)] [] (.bool true) [] := by
  have hll : row.length = other.length := by rw [hrow]; simp
  refine Fn.here P 39 rfl rfl [(S "row", false), (S "other", false), (S "x", true), (S "y", true)] [S "zip"] 2 [S "row", S "other"] (fun _ _ _ _ _ => rfl) (by decide +kernel) rfl (by decide) rfl rfl rfl (by decide +kernel) rfl rfl rfl rfl ?_
  intro C H
  have hu := H.uni
  walk_at "evs"
  refine U.for2 (by assumption) (.cons (by walk_at "at") (.cons (by walk_at "at") (.nil))) rfl ?_
  refine U.zip (by assumption) (by walk_at "mem") (b_zip P) ?_; walk_at "evs"
  refine ⟨_, _, rfl, ?_⟩
  refine ForK2.zip hll (fun k σ => (∃ o1 o2 : Option V, σ = ⟨[some (.d (Li row)), some (.d (Li other)), o1, o2], []⟩) ∧ ∀ i y, i < k → other[i]? = some y → y = 0) ⟨⟨_, _, rfl⟩, fun i y hi => by lia⟩ ?_ ?_
  · rintro k x y _ hx hy ⟨⟨o1, o2, rfl⟩, hz⟩
    have hxy : x = m * y := by
      rw [hrow, List.getElem?_map, hy] at hx
      simp at hx
      exact hx.symm
    have bx := hb1 x (List.mem_of_getElem? hx)
    have by' := hb2 y (List.mem_of_getElem? hy)
    walk_at "evs"
    refine both_ne (fun h => ?_) (fun h => ?_)
    · have hm : m.natAbs < 2 ^ 60 := by
        have e : x.natAbs = m.natAbs * y.natAbs := by rw [hxy, Int.natAbs_mul]
        have : m.natAbs * 1 ≤ m.natAbs * y.natAbs := Nat.mul_le_mul_left _ (by lia)
        lia
      have e1 : x.fmod y = 0 := by rw [hxy]; exact Int.mul_fmod_left m y
      have e2 : x.fdiv y = m := by rw [hxy]; exact Int.mul_fdiv_cancel m h
      walk_at "evs"
      refine BinK.modn h ?_
      walk_at "evs"
      rw [e1]
      refine both_eq (fun _ => ?_) (fun hc => absurd rfl hc)
      walk_at "evs"
      refine U.comp1 (by assumption) [2, 3] [S "x", S "y"] [] [(S "part", false), (S "x", true), (S "y", true)] rfl ⟨rfl, by decide +kernel, by decide +kernel, by decide +kernel, by decide +kernel, by decide +kernel, by decide, by decide +kernel⟩ rfl ?_; walk_at "evs"
      refine EvI.list H.ok ?_
      walk_at "evs"
      refine ⟨_, rfl, by simp; lia, fun C' H' => ?_⟩
      refine CompK.map (xs := other) (f := D.int) (r := fun z => D.int (m * z)) ?_ ?_
      · intro z hzz
        clear H hu
        walk_at "evs"
        refine BinK.fdivn h (by (omega)) ?_
        rw [e2]
        walk_at "evs"
        refine BinK.mul (by lia) ?_
        exact ⟨rfl, _, rfl⟩
      · intro a
        have e : other.map (fun z => D.int (m * z)) = row.map D.int := by rw [hrow, List.map_map]; rfl
        rw [e]
        refine ⟨rfl, ?_⟩
        refine CmpK.eqLi (by (omega)) ?_
        refine ret_of ?_
        simp
    · walk_at "evs"
      refine ⟨⟨_, _, rfl⟩, fun i z hi hiz => ?_⟩
      rcases Nat.lt_or_ge i k with q | q
      · exact hz i z q hiz
      · have : i = k := by lia
        subst this
        rw [hy] at hiz
        cases hiz
        exact h
  · rintro _ ⟨⟨o1, o2, rfl⟩, hz⟩
    walk_at "evs"
    refine CmpK.eqLi (by (omega)) ?_
    refine ret_of ?_
    have : row = other := by
      rw [hrow]
      apply List.ext_getElem?
      intro i
      rw [List.getElem?_map]
      cases q : other[i]? with
      | none => rfl
      | some y =>
        have := hz i y (by rw [hll]; exact (List.getElem?_eq_some_iff.mp q).1) q
        subst this
        simp
    rw [this]
    simp
end

section -- Pl7
noncomputable def dealRow (cards : List Int) (c : Nat) : Nat → List Int
  | 0 => []
  | n + 1 => (dealt cards c 25 - 12) :: dealRow cards (c + 1) n
theorem dealRow_len (cards : List Int) : ∀ (n c : Nat), (dealRow cards c n).length = n
  | 0, _ => rfl
  | n + 1, c => by simp [dealRow, dealRow_len cards n]
theorem dealRow_bound (cards : List Int) : ∀ (n c : Nat), ∀ x ∈ dealRow cards c n, x.natAbs ≤ 12
  | 0, _, _, h => by simp [dealRow] at h
  | n + 1, c, x, h => by
    simp only [dealRow, List.mem_cons] at h
    rcases h with rfl | h
    · have := dealt_lt cards c (show (0 : Int) < 25 by decide); lia
    · exact dealRow_bound cards n (c + 1) x h
theorem zipWith_mem {f : Int → Int → Int} : ∀ {u v : List Int} {z : Int}, z ∈ List.zipWith f u v → ∃ x ∈ u, ∃ y ∈ v, z = f x y
  | [], _, _, h => by simp at h
  | _ :: _, [], _, h => by simp at h
  | a :: u, b :: v, z, h => by
    simp only [List.zipWith_cons_cons, List.mem_cons] at h
    rcases h with rfl | h
    · exact ⟨a, List.mem_cons_self, b, List.mem_cons_self, rfl⟩
    · obtain ⟨x, hx, y, hy, e⟩ := zipWith_mem h
      exact ⟨x, List.mem_cons_of_mem _ hx, y, List.mem_cons_of_mem _ hy, e⟩
theorem neg_lin : ∀ {u v : List Int}, u.length = v.length → u.map (fun x => 0 - x) = lin (-1) 0 u v
  | [], [], _ => by simp [lin]
  | [], _ :: _, h => by simp at h
  | _ :: _, [], h => by simp at h
  | x :: u, y :: v, h => by
    have ih := neg_lin (u := u) (v := v) (by simpa using h)
    simp only [lin] at ih
    simp only [lin, List.map_cons, List.zipWith_cons_cons, ih]
    congr 1
    lia
theorem turnStep_ok (cards : List Int) (s : Tn) (b : Nat) (h : s.2.1.length = s.2.2.length) (h1 : ∀ x ∈ s.2.1, x.natAbs ≤ b) (h2 : ∀ x ∈ s.2.2, x.natAbs ≤ b) :
    Lat s.2.1 s.2.2 (turnStep cards s).2.1 (turnStep cards s).2.2 ∧ (∀ x ∈ (turnStep cards s).2.1, x.natAbs ≤ b * 3) ∧ (∀ x ∈ (turnStep cards s).2.2, x.natAbs ≤ b * 3) := by
  have hm := dealt_lt cards (s.1 + 1) (show (0 : Int) < 5 by decide)
  obtain ⟨c, u, v⟩ := s
  dsimp only at h h1 h2 hm
  unfold turnStep
  dsimp only
  generalize hg : dealt cards (c + 1) 5 - 2 = m at *
  have hmb : m.natAbs ≤ 2 := by (omega)
  have mulb : ∀ z : Int, z.natAbs ≤ b → (m * z).natAbs ≤ 2 * b := fun z hz => by rw [Int.natAbs_mul]; exact Nat.mul_le_mul hmb hz
  split
  · have e : List.zipWith (fun x y => x + m * y) u v = lin 1 m u v := by unfold lin; congr 1; funext x y; lia
    refine ⟨by rw [e]; exact Lat.lin1 m h, fun z hz => ?_, fun z hz => by have := h2 z hz; dsimp only at *; lia⟩
    obtain ⟨x, hx, y, hy, rfl⟩ := zipWith_mem hz
    have := h1 x hx; have := mulb y (h2 y hy); (omega)
  split
  · have e : List.zipWith (fun x y => y + m * x) u v = lin m 1 u v := by unfold lin; congr 1; funext x y; lia
    refine ⟨by rw [e]; exact Lat.lin2 m h, fun z hz => by have := h1 z hz; dsimp only at *; lia, fun z hz => ?_⟩
    obtain ⟨x, hx, y, hy, rfl⟩ := zipWith_mem hz
    have := h2 y hy; have := mulb x (h1 x hx); (omega)
  split
  · exact ⟨Lat.swap h, fun z hz => by have := h2 z hz; lia, fun z hz => by have := h1 z hz; lia⟩
  · refine ⟨by rw [neg_lin h]; exact Lat.neg1 h, fun z hz => ?_, fun z hz => by have := h2 z hz; dsimp only at *; lia⟩
    simp at hz
    obtain ⟨x, hx, rfl⟩ := hz
    have := h1 x hx; (omega)
theorem turnN_ok (cards : List Int) (s : Tn) (b : Nat) (h : s.2.1.length = s.2.2.length) (h1 : ∀ x ∈ s.2.1, x.natAbs ≤ b) (h2 : ∀ x ∈ s.2.2, x.natAbs ≤ b) : ∀ n : Nat,
    Lat s.2.1 s.2.2 (turnN cards n s).2.1 (turnN cards n s).2.2 ∧ (∀ x ∈ (turnN cards n s).2.1, x.natAbs ≤ b * 3 ^ n) ∧ (∀ x ∈ (turnN cards n s).2.2, x.natAbs ≤ b * 3 ^ n)
  | 0 => ⟨Lat.refl h, fun x hx => by rw [Nat.pow_zero, Nat.mul_one]; exact h1 x hx, fun x hx => by rw [Nat.pow_zero, Nat.mul_one]; exact h2 x hx⟩
  | n + 1 => by
    obtain ⟨i1, i2, i3⟩ := turnN_ok cards s b h h1 h2 n
    obtain ⟨j1, j2, j3⟩ := turnStep_ok cards (turnN cards n s) (b * 3 ^ n) (by have := i1.2; lia) i2 i3
    refine ⟨i1.trans j1, fun x hx => ?_, fun x hx => ?_⟩
    · have := j2 x hx; rw [Nat.pow_succ, ← Nat.mul_assoc]; exact this
    · have := j3 x hx; rw [Nat.pow_succ, ← Nat.mul_assoc]; exact this
theorem gaussI_zero {S : Int} : ∀ (n : Nat) (u v : List Int), dotI u u + dotI v v ≤ S → dotI (gaussI n u v).1 (gaussI n u v).1 = 0 → dotI (gaussI n u v).2 (gaussI n u v).2 ≤ S := by
  have st : ∀ (k : Nat) (u v : List Int), (∀ u v : List Int, dotI u u + dotI v v ≤ S → dotI (gaussI k u v).1 (gaussI k u v).1 = 0 → dotI (gaussI k u v).2 (gaussI k u v).2 ≤ S) → dotI u u ≤ dotI v v → dotI u u + dotI v v ≤ S → dotI (gstep k u v).1 (gstep k u v).1 = 0 → dotI (gstep k u v).2 (gstep k u v).2 ≤ S := fun k u v ih hle h => by
    have nu := dotI_self_nonneg u
    unfold gstep
    generalize (2 * dotI u v + dotI u u) / (2 * dotI u u) = m at *
    split
    · intro _; show dotI v v ≤ S; lia
    rename_i z
    split
    · intro e; exact absurd e z
    split
    · intro e; exact absurd e z
    · rename_i hlt
      exact ih u _ (by lia)
  intro n
  induction n with
  | zero => intro u v h _; have := dotI_self_nonneg u; show dotI v v ≤ S; lia
  | succ k ih =>
    intro u v h
    by_cases c : dotI v v < dotI u u
    · rw [gaussI_gt c]; exact st k v u ih (by lia) (by lia)
    · rw [gaussI_le c]; exact st k u v ih (by lia) h
theorem sqI_lin (a b : Int) : ∀ u v : List Int, sqI a b u v = dotI (lin a b u v) (lin a b u v)
  | [], _ => by simp [sqI, lin, dotI, sumI]
  | _ :: _, [] => by simp [sqI, lin, dotI, sumI]
  | x :: u, y :: v => by
    have ih := sqI_lin a b u v
    simp only [sqI, lin] at ih
    simp only [sqI, lin, List.zipWith_cons_cons, sumI, dotI, ih]
    rw [Int.pow_succ, Int.pow_succ, Int.pow_zero, Int.one_mul]
theorem lin_zero : ∀ {p q : List Int} (e f : Int), p.length = q.length → (∀ x ∈ p, x = 0) → lin e f p q = q.map (fun y => f * y)
  | [], [], _, _, _, _ => by simp [lin]
  | [], _ :: _, _, _, h, _ => by simp at h
  | _ :: _, [], _, _, h, _ => by simp at h
  | x :: p, y :: q, e, f, h, hz => by
    have ih := lin_zero (p := p) (q := q) e f (by simpa using h) (fun z hq => hz z (List.mem_cons_of_mem _ hq))
    have := hz x List.mem_cons_self
    subst this
    simp only [lin] at ih
    simp only [lin, List.map_cons, List.zipWith_cons_cons, ih]
    congr 1
    lia
theorem norm_small {u : List Int} (hl : u.length ≤ 3) (h : ∀ x ∈ u, x.natAbs ≤ 972) : dotI u u < 2 ^ 22 := by
  have := dotI_bound (xs := u) (ys := u) (b := 973) (c := 973) (fun x hx => by have := h x hx; lia) (fun x hx => by have := h x hx; lia)
  have h2 := Nat.mul_le_mul_right (973 * 973) hl
  lia
theorem dealRow_snoc (cards : List Int) : ∀ (n c : Nat), dealRow cards c (n + 1) = dealRow cards c n ++ [dealt cards (c + n) 25 - 12]
  | 0, c => by simp [dealRow]
  | n + 1, c => by
    rw [dealRow, dealRow_snoc cards n (c + 1), dealRow, List.cons_append, show c + 1 + n = c + (n + 1) by lia]
theorem CompK.ind {C : Cx} {elt : Expr} {K : List D → St → Prop} (J : Nat → List D → St → Prop) {items : List D} {σ : St} (h0 : J 0 [] σ)
    (step : ∀ k x acc σ, items[k]? = some x → J k acc σ → Ev C elt (σ.setl 0 (.d x)) fun v σ1 => ∃ d, v = .d d ∧ J (k + 1) (acc ++ [d]) σ1) (fin : ∀ acc σ, J items.length acc σ → K acc σ) : CompK C elt items σ K := by
  have go : ∀ (r : List D) (k : Nat) (acc : List D) (σ : St) (K : List D → St → Prop), k ≤ items.length → items.drop k = r → J k acc σ → (∀ l σ, J items.length (acc ++ l) σ → K l σ) → CompK C elt r σ K := by
    intro r
    induction r with
    | nil =>
      intro k acc σ K hk hd hJ hK
      have hlen := congrArg List.length hd
      simp at hlen
      have : k = items.length := by lia
      subst this
      exact hK [] σ (by simpa using hJ)
    | cons x r ih =>
      intro k acc σ K hk hd hJ hK
      have hx : items[k]? = some x := by
        have := congrArg (·[0]?) hd
        simpa using this
      have hlt := (List.getElem?_eq_some_iff.mp hx).1
      refine (step k x acc σ hx hJ).mono fun v σ1 ⟨d, hv, hj⟩ => ⟨d, hv, ?_⟩
      exact ih (k + 1) (acc ++ [d]) σ1 _ hlt (by rw [← List.tail_drop, hd]; rfl) hj fun l σ2 h2 => hK (d :: l) σ2 (by simpa using h2)
  exact go items 0 [] σ K (Nat.zero_le _) (by simp) h0 fun l σ h => fin l σ (by simpa using h)
end

section -- Pl8
theorem wpAny_And3' {M : Model} {A : Around} {env : Env} {E : Value → Shared → Prop} {s : Shared} {x y z : Expr} {pos : Pos} {Q : Value → Shared → Prop}
    (h : wpAny M A (eval x env) (fun v s₁ => wpAny M A (truthy v) (fun t s₂ => if t then wpAny M A (eval (.BoolOp .And [y, z] pos) env) Q E s₂ else Q v s₂) E s₁) E s) :
    wpAny M A (eval (.BoolOp .And [x, y, z] pos) env) Q E s := by
  show wpAny M A (do
    let v ← eval x env
    standAt pos
    let t ← holding [v] (truthy v)
    match BoolOp.And, t with
    | .And, false | .Or, true => pure v
    | _, _ => boolOp pos .And [eval y env, eval z env]) Q E s
  refine wpAny_bind (wpAny_mono h (fun v s₁ h₁ => wpAny_bind (wpAny_standAt (wpAny_bind (wpAny_holding (wpAny_mono h₁ (fun t s₂ h₂ => ?_) fun _ _ x => x))))) fun _ _ x => x)
  cases t with
  | false => exact wpAny_pure h₂
  | true => exact h₂
theorem Ev.and3 {C : Cx} {σ : St} {K : V → St → Prop} {x y z : Expr} {pos : Pos} (h : Ev C x σ fun v σ1 => TruK C v σ1 fun c σ2 => (c = true → Ev C (.BoolOp .And [y, z] pos) σ2 K) ∧ (c = false → K v σ2)) : Ev C (.BoolOp .And [x, y, z] pos) σ K := fun hp tk ρ E R => by
  refine wpAny_And3' (mono' (h hp tk ρ E R) ?_)
  rintro a' _ ⟨h1, tk1, ρ1, a, σ1, rfl, k1, S1, r1⟩
  refine mono' (k1 h1 tk1 ρ1 E a' S1.rel r1) ?_
  rintro c _ ⟨h2, tk2, ρ2, c', σ2, rfl, k2, S2, r2⟩
  have r2 : c = c' := r2
  subst r2
  cases c with
  | true => exact mono' (k2.1 rfl h2 tk2 ρ2 E S2.rel) fun _ _ p => p.up (S1.trans S2)
  | false => exact ⟨h2, tk2, ρ2, a, σ2, rfl, k2.2 rfl, S1.trans S2, S2.rep S1.rel r1⟩
theorem law_c {G : Gl} (P : Pg G) (script : List Int) (hs : script.length ≤ 1000) : Fn G 10 324 [.d (Li script)] [] (.bool true) [] := by
  obtain ⟨cards, hcards⟩ : ∃ cards, cards = (script.take (clipAt script.length 30)).map (fun c => (c.natAbs : Int)) := ⟨_, rfl⟩
  have hcl : cards.length ≤ 1000 := by rw [hcards]; simp; lia
  have d8 := dealt_lt cards 0 (show (0 : Int) < 8 by decide)
  have d2 := dealt_lt cards 1 (show (0 : Int) < 2 by decide)
  obtain ⟨W, hWe⟩ : ∃ W : Nat, 5 + dealt cards 0 8 = (W : Int) := ⟨(5 + dealt cards 0 8).toNat, by lia⟩
  obtain ⟨np, hne⟩ : ∃ np : Nat, 2 + dealt cards 1 2 = (np : Int) := ⟨(2 + dealt cards 1 2).toNat, by lia⟩
  have hW : 2 ≤ W := by lia
  have hW2 : W ≤ 12 := by lia
  have hn3 : np ≤ 3 := by lia
  clear d8 d2
  obtain ⟨u, hu⟩ : ∃ u, u = dealRow cards 2 np := ⟨_, rfl⟩
  obtain ⟨v, hv⟩ : ∃ v, v = dealRow cards (2 + np) np := ⟨_, rfl⟩
  have lu : u.length = np := by rw [hu, dealRow_len]
  have lv : v.length = np := by rw [hv, dealRow_len]
  have bu : ∀ x ∈ u, x.natAbs ≤ 12 := by rw [hu]; exact dealRow_bound cards np 2
  have bv : ∀ x ∈ v, x.natAbs ≤ 12 := by rw [hv]; exact dealRow_bound cards np (2 + np)
  obtain ⟨t, ht⟩ : ∃ t, t = turnN cards (dealt cards (2 + np + np) 5).toNat (2 + np + np + 1, u, v) := ⟨_, rfl⟩
  have d5 := dealt_lt cards (2 + np + np) (show (0 : Int) < 5 by decide)
  have tk := turnN_ok cards (2 + np + np + 1, u, v) 12 (by dsimp only; lia) bu bv (dealt cards (2 + np + np) 5).toNat
  rw [← ht] at tk
  obtain ⟨L1, tb1, tb2⟩ := tk
  dsimp only at L1
  have p3 : 3 ^ (dealt cards (2 + np + np) 5).toNat ≤ 3 ^ 4 := Nat.pow_le_pow_right (by decide) (by lia)
  have lt1 : t.2.1.length = np := by have := L1.2.1; lia
  have lt2 : t.2.2.length = np := by have := L1.2.2.1; lia
  have bt1 : ∀ x ∈ t.2.1, x.natAbs ≤ 972 := fun x hx => by have := tb1 x hx; lia
  have bt2 : ∀ x ∈ t.2.2, x.natAbs ≤ 972 := fun x hx => by have := tb2 x hx; lia
  have n1 := norm_small (u := u) (by lia) (fun x hx => by have := bu x hx; lia)
  have n2 := norm_small (u := v) (by lia) (fun x hx => by have := bv x hx; lia)
  have n3 := norm_small (u := t.2.1) (by lia) bt1
  have n4 := norm_small (u := t.2.2) (by lia) bt2
  have g1 := gaussI_ok (2 ^ 25) u v (by lia) (by lia)
  have g2 := gaussI_ok (2 ^ 25) t.2.1 t.2.2 (by lia) (by lia)
  have h1 := gaussI_big (S := 2 ^ 24) (by decide) (2 ^ 25) u v (by lia) (by lia)
  have h2 := gaussI_big (S := 2 ^ 24) (by decide) (2 ^ 25) t.2.1 t.2.2 (by lia) (by lia)
  have z1 := gaussI_zero (S := 2 ^ 24) (2 ^ 25) u v (by lia)
  obtain ⟨p, q, hpq⟩ : ∃ p q, gaussI (2 ^ 25) u v = (p, q) := ⟨_, _, rfl⟩
  obtain ⟨p', q', hpq'⟩ : ∃ p q, gaussI (2 ^ 25) t.2.1 t.2.2 = (p, q) := ⟨_, _, rfl⟩
  rw [hpq] at g1 h1 z1
  rw [hpq'] at g2 h2
  dsimp only at g1 g2 h1 h2 z1
  have lp : p.length = np := by have := g1.1.2.1; lia
  have lq : q.length = np := by have := g1.1.2.2.1; lia
  have lp' : p'.length = np := by have := g2.1.2.1; lia
  have lq' : q'.length = np := by have := g2.1.2.2.1; lia
  have bp : ∀ x ∈ p, x.natAbs < 2 ^ 60 := fun x hx => by have := h1.1 x hx; lia
  have bq : ∀ x ∈ q, x.natAbs < 2 ^ 60 := fun x hx => by have := h1.2 x hx; lia
  have bp' : ∀ x ∈ p', x.natAbs < 2 ^ 60 := fun x hx => by have := h2.1 x hx; lia
  have bq' : ∀ x ∈ q', x.natAbs < 2 ^ 60 := fun x hx => by have := h2.2 x hx; lia
  have same := same_sizes ((g1.1.symm.trans L1).trans g2.1) g1.2 g2.2
  have hsz : sizesI p q = sizesI p' q' := by unfold sizesI; rw [same.1, same.2.1, same.2.2]
  have hsh : ∀ a b : Int, -3 ≤ a → a ≤ 3 → -3 ≤ b → b ≤ 3 → ((a ≠ 0 ∨ b ≠ 0) → dotI p p ≤ sqI a b p q) ∧ (b ≠ 0 → dotI q q ≤ sqI a b p q) := fun a b _ _ _ _ => by
    rw [sqI_lin]; exact red_ge g1.2 (by lia) a b
  have hdeg : dotI u u * dotI v v = dotI u v ^ 2 → dotI p p = 0 ∧ (∃ m, u = q.map (fun y => m * y)) ∧ (∃ m, v = q.map (fun y => m * y)) ∧ ∀ y ∈ q, y.natAbs < 1073741824 := fun h => by
    have hd : detI u v = 0 := by unfold detI; rw [h, Int.pow_succ, Int.pow_succ, Int.pow_zero, Int.one_mul]; lia
    obtain ⟨i1, i2, i3, a, b, c, d, e, f, g, k, e1, e2, e3, e4⟩ := g1.1
    have hd2 : detI p q = 0 := by
      have := det_lin a b c d i1
      rw [← e1, ← e2, hd, Int.mul_zero] at this
      exact this
    have zz := red_zero g1.2 hd2
    have zp := zero_of zz
    have zb := z1 zz
    exact ⟨zz, ⟨f, by rw [← lin_zero e f (by lia) zp]; exact e3⟩, ⟨k, by rw [← lin_zero g k (by lia) zp]; exact e4⟩, fun y hy => by have := entry_le hy; (clear zz; lia)⟩
  have pc1 := pair_c P hW hW2 u v (by lia) (by lia) (by lia) (2 ^ 25) (by lia) p q hpq ⟨by lia, fun x hx => by have := bp x hx; lia⟩ ⟨by lia, fun x hx => by have := bq x hx; lia⟩
  have pc2 := pair_c P hW hW2 t.2.1 t.2.2 (by lia) (by lia) (by lia) (2 ^ 25) (by lia) p' q' hpq' ⟨by lia, fun x hx => by have := bp' x hx; lia⟩ ⟨by lia, fun x hx => by have := bq' x hx; lia⟩
  clear h1 h2 z1 same tb1 tb2 p3 g1 g2 hpq hpq' L1
  refine Fn.here P 40 rfl rfl [(S "script", false), (S "pack", true), (S "w", false), (S "places", true), (S "one", false), (S "other", false), (S "more", false), (S "pairs", false), (S "short", false), (S "later", false)] [S "_law_dealt", S "range", S "_law_turned", S "_law_pair", S "_law_sizes", S "_law_dot", S "_law_is_shortest", S "_law_is_multiple"] 9 [S "script"] (fun _ _ _ _ => rfl) (by decide +kernel) rfl (by decide) rfl rfl rfl (by decide +kernel) rfl rfl rfl rfl ?_
  intro C H
  have hun := H.uni
  walk_at "evs"
  refine Ev.fresh (EvF.list ?_)
  walk_at "evs"
  refine U.comp1 (by assumption) [] [] [S "abs", S "int"] [(S "card", false)] rfl ⟨rfl, by decide +kernel, by decide +kernel, by decide +kernel, by decide +kernel, by decide +kernel, by decide, by decide +kernel⟩ rfl ?_; walk_at "evs"
  refine EvI.list H.ok ?_
  walk_at "evs"
  refine ⟨_, rfl, ?_⟩
  refine ⟨_, .d, by simp; lia, ?_⟩
  have ect : cutD (script.map D.int) none (some 30) = (script.take (clipAt script.length 30)).map D.int := by rw [cutD_map]; simp
  rw [ect]
  refine ⟨_, rfl, by simp; lia, fun C' H' => ?_⟩
  refine CompK.map (f := D.int) (r := fun c => D.int (c.natAbs : Int)) ?_ ?_
  · intro x hx
    clear H hun
    walk_at "evs"
    refine U.callB (by assumption) (by walk_at "mem") (b_abs P) (.builtin _) ?_
    walk_at "evs"
    refine U.callB (by assumption) (by walk_at "mem") (b_int P) (.type _) ?_
    walk_at "evs"
    refine CallK.toint ?_
    walk_at "evs"
    refine CallK.abs ?_
    exact ⟨rfl, _, rfl⟩
  intro a
  have e0 : ((script.take (clipAt script.length 30)).map fun c => D.int (c.natAbs : Int)) = cards.map D.int := by rw [hcards, List.map_map]; rfl
  rw [e0]
  refine ⟨rfl, ?_⟩
  walk_at "evs"
  refine ⟨[_, _], rfl, by simp, ?_⟩
  refine (?_ : Exs C _ ⟨[some (.d (Li script)), some (.mu 0), none, none, none, none, none, none, none, none], [some [.int ((0 : Nat) : Int), Li cards]]⟩ _)
  clear ect e0 hcards
  walk_at "evs"
  refine U.untup (hw := unswapped2 H.ok (by rfl) (H.local (i := 2) rfl) (H.cell (i := 3) rfl)) (by assumption) (.cons (by walk_at "at") (.cons (by walk_at "at") (.nil))) ?_
  walk_at "evs"
  refine U.call (by assumption) (by walk_at "mem") (g_law_dealt P) (f_law_dealt P) ?_; walk_at "evs"
  walk_at "mu"; walk_at "evs"
  refine CallK.one (by assumption) (dealt_c P cards hcl 0 (by lia) 8 (by decide)) (by lia) rfl rfl (by simp) ?_
  walk_at "evs"
  refine U.call (by assumption) (by walk_at "mem") (g_law_dealt P) (f_law_dealt P) ?_; walk_at "evs"
  walk_at "mu"; walk_at "evs"
  refine CallK.one (by assumption) (dealt_c P cards hcl 1 (by lia) 2 (by decide)) (by lia) rfl rfl (by simp) ?_
  walk_at "evs"
  rw [hWe, hne]
  refine ⟨[_, _], rfl, by simp, ?_⟩
  refine ⟨_, _, rfl, .tup _, rfl, ?_⟩
  refine (?_ : Exs C _ ⟨[some (.d (Li script)), some (.mu 0), some (.d (.int W)), some (.d (.int np)), none, none, none, none, none, none], [some [.int ((2 : Nat) : Int), Li cards]]⟩ _)
  walk_at "evs"
  refine U.untup (by assumption) (.cons (by walk_at "at") (.cons (by walk_at "at") (.nil))) ?_
  refine U.comp1 (by assumption) [1, 3] [S "pack", S "places"] [S "range"] [(S "row", false), (S "pack", true), (S "places", true)] rfl ⟨rfl, by decide +kernel, by decide +kernel, by decide +kernel, by decide +kernel, by decide +kernel, by decide, by decide +kernel⟩ rfl ?_; walk_at "evs"
  refine U.range1 (by assumption) (by walk_at "mem") (b_range P) ?_; walk_at "evs"
  refine ⟨_, rfl, by decide, by decide, by decide, fun C' H' => ?_⟩
  refine CompK.ind (fun k acc σ => (∃ o, σ = ⟨[o, some (.mu 0), some (.d (.int np))], [some [.int ((2 + k * np : Nat) : Int), Li cards]]⟩) ∧ acc = ([u, v].take k).map (fun r => Li r)) ⟨⟨_, by rw [Nat.zero_mul]; rfl⟩, rfl⟩ ?_ ?_
  · rintro k x acc _ hk ⟨⟨o, rfl⟩, rfl⟩
    obtain ⟨hk2, rfl⟩ := range_at hk
    have hk3 : k < 2 := hk2
    clear H hun
    refine U.comp1 (by assumption) [1] [S "pack"] [S "_law_dealt"] [(S "turn", false), (S "pack", true)] rfl ⟨rfl, by decide +kernel, by decide +kernel, by decide +kernel, by decide +kernel, by decide +kernel, by decide, by decide +kernel⟩ rfl ?_; walk_at "evs"
    refine U.range1 (by assumption) (by walk_at "mem") (b_range P) ?_; walk_at "evs"
    refine ⟨_, rfl, by lia, by lia, by rw [range_len]; lia, fun C2 H2 => ?_⟩
    refine CompK.ind (fun j acc σ => (∃ o, σ = ⟨[o, some (.mu 0)], [some [.int ((2 + k * np + j : Nat) : Int), Li cards]]⟩) ∧ acc = (dealRow cards (2 + k * np) j).map D.int) ⟨⟨_, rfl⟩, rfl⟩ ?_ ?_
    · rintro j x acc _ hj ⟨⟨o, rfl⟩, rfl⟩
      obtain ⟨hj2, rfl⟩ := range_at hj
      have hj3 : j < 3 := by lia
      have hkn : k * np ≤ 1 * 3 := Nat.mul_le_mul (by lia) hn3
      clear H'
      walk_at "evs"
      refine U.call (by assumption) (by walk_at "mem") (g_law_dealt P) (f_law_dealt P) ?_; walk_at "evs"
      walk_at "mu"; walk_at "evs"
      refine CallK.one (by assumption) (dealt_c P cards hcl (2 + k * np + j) (by lia) 25 (by decide)) (by lia) rfl rfl (by simp) ?_
      walk_at "evs"
      refine ⟨_, rfl, ⟨_, rfl⟩, ?_⟩
      rw [dealRow_snoc, List.map_append]; rfl
    · rintro acc _ ⟨⟨o, rfl⟩, rfl⟩
      rw [range_len, Int.toNat_natCast]
      refine ⟨rfl, _, rfl, ⟨some (.d (.int (0 + (k : Int) * 1))), ?_⟩, ?_⟩
      · rw [Nat.succ_mul, ← Nat.add_assoc]; rfl
      · match k, hk3 with
        | 0, _ => rw [hu, Nat.zero_mul]; rfl
        | 1, _ => rw [hv, Nat.one_mul]; rfl
  rintro acc _ ⟨⟨o, rfl⟩, rfl⟩
  refine ⟨rfl, ?_⟩
  refine ⟨_, _, rfl, .list _, rfl, ?_⟩
  refine (?_ : Exs C _ ⟨[some (.d (Li script)), some (.mu 0), some (.d (.int W)), some (.d (.int np)), some (.d (Li u)), some (.d (Li v)), none, none, none, none], [some [.int ((2 + 2 * np : Nat) : Int), Li cards]]⟩ _)
  rw [show 2 + 2 * np = 2 + np + np by lia]
  walk_at "evs"
  refine U.call (by assumption) (by walk_at "mem") (g_law_turned P) (f_law_turned P) ?_; walk_at "evs"
  walk_at "mu"; walk_at "evs"
  refine CallK.one (by assumption) (turned_c P cards hcl (2 + np + np) (by lia) u v (by lia) (by lia) t ht) (by lia) rfl rfl (by simp) ?_
  walk_at "evs"
  refine Ev.frozen (EvF.list ?_)
  walk_at "evs"
  refine U.call (by assumption) (by walk_at "mem") (g_law_pair P) (f_law_pair P) ?_; walk_at "evs"
  refine CallK.pure (by assumption) (pc1) (by lia) (by simp) ?_; walk_at "evs"
  refine U.call (by assumption) (by walk_at "mem") (g_law_pair P) (f_law_pair P) ?_; walk_at "evs"
  refine CallK.pure (by assumption) (pc2) (by lia) (by simp) ?_; walk_at "evs"
  refine ⟨[_, _], rfl, by simp, ?_⟩
  have hpl : D.plains [D.list [Li p, Li q], D.list [Li p', Li q']] = true := by simp only [D.plains, D.plain, plains_ints]; rfl
  refine (?_ : Exs C _ ⟨[some (.d (Li script)), some (.mu 0), some (.d (.int W)), some (.d (.int np)), some (.d (Li u)), some (.d (Li v)), some (.d (.tup [Li t.2.1, Li t.2.2])), some (.d (.list [.list [Li p, Li q], .list [Li p', Li q']])), none, none], [some [.int t.1, Li cards]]⟩ _)
  refine Exs.cons (Ex.ite (EvB.mid (fun c σ' => c = false ∧ σ' = ⟨[some (.d (Li script)), some (.mu 0), some (.d (.int W)), some (.d (.int np)), some (.d (Li u)), some (.d (Li v)), some (.d (.tup [Li t.2.1, Li t.2.2])), some (.d (.list [.list [Li p, Li q], .list [Li p', Li q']])), none, none], [some [.int t.1, Li cards]]⟩) ?_ ?_))
  · walk_at "evs"
    refine CmpK.noneIn (by lia) hpl rfl ?_
    walk_at "evs"
    refine U.call (by assumption) (by walk_at "mem") (g_law_sizes P) (f_law_sizes P) ?_; walk_at "evs"
    refine SubK.list .d (by decide) (by decide) rfl ?_
    walk_at "evs"
    refine CallK.pure (by assumption) (sizes_c P p q (by lia) (by lia) (fun x hx => by have := bp x hx; lia) (fun x hx => by have := bq x hx; lia)) (by lia) (by simp) ?_; walk_at "evs"
    refine U.call (by assumption) (by walk_at "mem") (g_law_sizes P) (f_law_sizes P) ?_; walk_at "evs"
    refine SubK.list .d (by decide) (by decide) rfl ?_
    walk_at "evs"
    refine CallK.pure (by assumption) (sizes_c P p' q' (by lia) (by lia) (fun x hx => by have := bp' x hx; lia) (fun x hx => by have := bq' x hx; lia)) (by lia) (by simp) ?_; walk_at "evs"
    refine CmpK.neLi (by lia) ?_
    rw [hsz, show (sizesI p' q' != sizesI p' q') = false by simp]
    walk_at "evs"
    exact ⟨rfl, rfl⟩
  rintro _ _ ⟨rfl, rfl⟩
  walk_at "evs"
  refine U.untup (by assumption) (.cons (by walk_at "at") (.cons (by walk_at "at") (.nil))) ?_
  walk_at "evs"
  refine SubK.list .d (by decide) (by decide) rfl ?_
  refine ⟨_, _, rfl, .list _, rfl, ?_⟩
  have bu' : ∀ x ∈ u, x.natAbs < 2 ^ 64 := fun x hx => by have := bu x hx; lia
  have bv' : ∀ x ∈ v, x.natAbs < 2 ^ 64 := fun x hx => by have := bv x hx; lia
  have nnu := dotI_self_nonneg u
  have nnv := dotI_self_nonneg v
  have cs := @dotI_cs u v
  walk_at "evs"
  refine U.call (by assumption) (by walk_at "mem") (g_law_dot P) (f_law_dot P) ?_; walk_at "evs"
  refine CallK.pure (by assumption) (law_dot_c P u u (by lia) bu') (by lia) (by simp) ?_; walk_at "evs"
  refine U.call (by assumption) (by walk_at "mem") (g_law_dot P) (f_law_dot P) ?_; walk_at "evs"
  refine CallK.pure (by assumption) (law_dot_c P v v (by lia) bv') (by lia) (by simp) ?_; walk_at "evs"
  refine BinK.mul (by lia) ?_
  walk_at "evs"
  refine U.call (by assumption) (by walk_at "mem") (g_law_dot P) (f_law_dot P) ?_; walk_at "evs"
  refine CallK.pure (by assumption) (law_dot_c P u v (by lia) bu') (by lia) (by simp) ?_; walk_at "evs"
  refine BinK.sq (by lia) ?_
  walk_at "evs"
  refine both_ne (fun h => ?_) (fun h => ?_)
  · walk_at "evs"
    refine U.call (by assumption) (by walk_at "mem") (g_law_is_shortest P) (f_law_is_shortest P) ?_; walk_at "evs"
    refine CallK.pure (by assumption) (shortest_c P p q (by lia) (by lia) bp bq hsh) (by lia) (by simp) ?_; walk_at "evs"
    exact ⟨.inl rfl, by simp⟩
  · obtain ⟨zz, ⟨m1, hm1⟩, ⟨m2, hm2⟩, hqs⟩ := hdeg h
    walk_at "evs"
    refine Ev.and3 ?_
    walk_at "evs"
    refine U.call (by assumption) (by walk_at "mem") (g_law_dot P) (f_law_dot P) ?_; walk_at "evs"
    refine CallK.pure (by assumption) (law_dot_c P p p (by lia) (fun x hx => by have := bp x hx; lia)) (by lia) (by simp) ?_; walk_at "evs"
    rw [zz]
    refine both_eq (fun _ => ?_) (fun hc => absurd rfl hc)
    walk_at "evs"
    refine U.call (by assumption) (by walk_at "mem") (g_law_is_multiple P) (f_law_is_multiple P) ?_; walk_at "evs"
    refine CallK.pure (by assumption) (multiple_c P u q m1 (by lia) hm1 (fun x hx => by have := bu x hx; lia) hqs) (by lia) (by simp) ?_; walk_at "evs"
    refine U.call (by assumption) (by walk_at "mem") (g_law_is_multiple P) (f_law_is_multiple P) ?_; walk_at "evs"
    refine CallK.pure (by assumption) (multiple_c P v q m2 (by lia) hm2 (fun x hx => by have := bv x hx; lia) hqs) (by lia) (by simp) ?_; walk_at "evs"
    exact ⟨.inl rfl, by simp⟩
end

end Mine
end

open PySem PySem.W PySem.Calls PyProof.Rows
set_option maxRecDepth 100000
namespace Mine
theorem repds_ints {h : Heap} {M : Addr → Prop} {vs : List Value} {ns : List Int} (hI : IntsAre vs ns) : RepDs h M (ns.map D.int) vs := by
  induction hI with
  | nil => simp [RepDs]
  | cons n t _ ih => simp only [List.map_cons, RepDs, RepD]; exact ⟨_, _, rfl, ⟨t, rfl⟩, ih⟩
theorem well_list {P : PySem.Params} {h : Heap} {l : Addr} {xs : List PyData} (w : Well P h (.ref l) (ofPy (.list xs))) : ∃ vs : List Value, h.get? l = some { cls := .type "list", data := .seq vs.toArray } := by
  generalize hd : ofPy (.list xs) = d at w
  cases w with
  | list h1 h2 => exact ⟨_, h1⟩
  | _ => simp [ofPy] at hd
theorem join {w : World} {s₁ : Shared} {mg mb : Str → Option Value} {l : Addr} {vs : List Value} {ns : List Int} {Q E : Value → Shared → Prop}
    (P : Pg ⟨PySem.Challenge.rw_sa0341_01.row.prog, w, s₁.heap, mg, mb⟩) (hw : Well w.params s₁.heap (.ref l) (ofPy (.list (ns.map .int)))) (hl : s₁.heap.IsList l vs.toArray) (hI : IntsAre vs ns) (hn : ns.length ≤ 1000)
    (hQ : ∀ h' tk', (∀ b o, s₁.heap.get? b = some o → h'.get? b = some o) → Q (.bool true) { s₁ with heap := h', toks := tk' }) :
    wpAny (model PySem.Challenge.rw_sa0341_01.row.prog w) callerA (PySem.call (.ref 324) [.ref l]) Q E s₁ := by
  have F := law_c P ns hn
  obtain ⟨ws, hws⟩ := well_list hw
  obtain ⟨o, ho, hcl, n, hdt⟩ := hl
  rw [hws] at ho
  cases ho
  have e : ws = vs := by
    have := hdt
    simp at this
    exact this.1
  subst e
  refine mono' (F.run callerA s₁ ⟨[], fun a => ∃ o, s₁.heap.get? a = some o⟩ [.ref l] E rfl rfl (by decide) (by decide) ⟨rfl, by simp, by simp, fun _ _ e => e, by simp, by simp, fun a o e => ⟨o, e⟩, fun a e => e⟩
    ⟨.ref l, [], rfl, ?_, rfl⟩) ?_
  · simp only [Rep, RepD]
    exact ⟨l, ws.toArray, _, rfl, hws, ⟨_, hws⟩, repds_ints hI⟩
  · rintro v' _ ⟨h', tk', gd', rfl, _, hk, _, _, hr⟩
    simp only [RepD] at hr
    subst hr
    exact hQ h' tk' fun b o e => hk b o e (by simp)

/-- what is looked at where the top ends -/
noncomputable def seenOf (o : Obj) : List (Option (Option Value)) := ((Str.ofString "NOUGHT", 193) :: adrs).map fun p => nsIn [(mainGlobals, o)] mainGlobals p.1
noncomputable def seenGood : List (Option (Option Value)) := ((Str.ofString "NOUGHT", 193) :: adrs).map fun p => some (some (.ref p.2))
noncomputable def look : Hook where
  α := Option (List (Option (Option Value))) × Option Obj × Option Obj
  obs s := ((s.heap.get? mainGlobals).map seenOf, s.heap.get? 193, s.heap.get? 192)
  val _ := (some seenGood, some { cls := .type "tuple", data := .seq #[.bool false, .ref 192] }, some { cls := .type "list", data := .seq #[] })
  says _ h := (∃ o, h.get? mainGlobals = some o ∧ seenOf o = seenGood) ∧ IsT h 193 #[.bool false, .ref 192] 0 ∧ IsL h 192 #[] 0
  of _ s e := by
    simp only [Prod.mk.injEq, Option.map_eq_some_iff] at e
    exact ⟨e.1, e.2.1, e.2.2⟩
  keeps _ _ _ x k := ⟨let ⟨o, h1, h2⟩ := x.1; ⟨o, k _ _ h1, h2⟩, k _ _ x.2.1, k _ _ x.2.2⟩
theorem mg_at {o : Obj} {h : Heap} {mg : Str → Option Value} (ho : h.get? mainGlobals = some o) (g : h.Ns mainGlobals mg) (e : seenOf o = seenGood) {i : Nat} {p : Str × Addr} (hi : ((Str.ofString "NOUGHT", 193) :: adrs)[i]? = some p) : mg p.1 = some (.ref p.2) := by
  have h2 := congrArg (·[i]?) e
  simp only [seenOf, seenGood, List.getElem?_map, hi, Option.map_some, Option.some.injEq] at h2
  refine mg_of (K := [(mainGlobals, o)]) (fun a o' q => ?_) g h2
  simp only [List.lookup] at q
  split at q
  · rename_i w
    cases q
    rw [beq_iff_eq.mp w]
    exact ho
  · cases q
theorem pg_of {q : Program} {loose : List Str} {mean : ExcName → Option Value} {w : World} {mg mb : Str → Option Value} {h : Heap} (T : Top q loose mean mg mb h) (Y : look.says w h) (e : recsOf q = texts PySem.Challenge.rw_sa0341_01.row.prog)
    (hn : (texts PySem.Challenge.rw_sa0341_01.row.prog).map (·.name) = adrs.map (·.1))
    (hf : bnames.all (fun x => !(startupNames.contains x || loose.contains x || ((recsOf q).map (·.name)).contains x || ((litsOf q).map (·.1)).contains x || ((clssOf q loose).map (·.name)).contains x)) = true) : Pg ⟨PySem.Challenge.rw_sa0341_01.row.prog, w, h, mg, mb⟩ := by
  obtain ⟨⟨o, ho, hs⟩, hN⟩ := Y
  refine ⟨rfl, T.g, T.b, T.nolimit, T.builtins, fun i x hx => ?_, fun i n a ha => ?_, mg_at ho T.g hs (i := 0) rfl, hN⟩
  · have := List.all_eq_true.mp hf x (List.mem_of_getElem? hx)
    simp only [Bool.not_eq_true', Bool.or_eq_false_iff, List.contains_eq_mem, decide_eq_false_iff_not] at this
    exact T.free x this.1.1.1.1 this.1.1.1.2 this.1.1.2 this.1.2 this.2
  · have hm : mg n = some (.ref a) := mg_at ho T.g hs (i := i + 1) (p := (n, a)) ha
    refine ⟨hm, ?_⟩
    have h1 := congrArg (·[i]?) hn
    simp only [List.getElem?_map, ha, Option.map_some, Option.map_eq_some_iff] at h1
    obtain ⟨d, hd, rfl⟩ := h1
    obtain ⟨a', o', pm, code, doc, k1, k2, k3, k4⟩ := T.fn d (e ▸ List.mem_of_getElem? hd)
    rw [hm] at k1
    cases k1
    exact ⟨d, o', pm, code, doc, hd, rfl, k2, k3, k4⟩
theorem said : PySem.Challenge.rw_sa0341_01.wellSaid = true := by kernel_rfl
theorem names_ok : (texts PySem.Challenge.rw_sa0341_01.row.prog).map (·.name) = adrs.map (·.1) := by kernel_rfl
theorem has_bool_m : WShape.has [] (.bool true) .bool = true := by
  first | rfl | decide | simp [WShape.has, WShape.arms]
theorem post_ok (ns : List PyData) : PySem.Challenge.rw_sa0341_01.row.claim.post [ofPy (.list ns)] (.bool true) [ofPy (.list ns)] = true := by
  show (WShape.has [] (.bool true) .bool && WTm.holds [] (.eq .res (.lit (.bool true))) { args := [ofPy (.list ns)], res := some (.bool true), after := [ofPy (.list ns)] }) = true
  rw [has_bool_m, Bool.true_and]
  unfold WTm.holds
  rw [w_eq_bool (k := true) (l := true) (w_res rfl) (w_lit)]
  first | rfl | (simp; done)
end Mine
set_option maxRecDepth 100000 in
set_option maxHeartbeats 8000000 in
theorem PySem.Challenge.cw_sa0341_01_holds : PySem.Challenge.rw_sa0341_01.Holds := by
  w_on; refine holds_law Mine.said fun said => ?_; o_head Mine.look; (case hw => w_witness2)
  intro w s₀ s₁ mg mb G Y fa o pm cd doc dV kV ho hd' hcd hD hmg hg args vals as hpre hlay hrd hwl hlo
  refine Ground.open G ?_
  intro T B D TE TW
  try (refine guard_noD D (by decide +kernel) ?_; clear D)
  wrow_args hpre hlay hrd hwl hlo
  have P := Mine.pg_of T Y (by kernel_rfl) Mine.names_ok (by decide +kernel)
  have hfa : fa = 324 := by
    have h1 := (P.at' 40 _ _ rfl).1
    have h2 : mg (Str.ofString "law") = some (.ref fa) := hmg
    exact Value.ref.inj (Option.some.inj (h2.symm.trans h1))
  subst hfa
  refine Mine.join P (by assumption) (by assumption) (by assumption) (by omega) ?_
  intro h' tk' hk
  refine GoodW.toG ⟨.inl ⟨_, _, [], rfl, fun cls => rfl, .bool true, ?_, ?_⟩, hk, rfl, hg⟩
  · exact Mine.post_ok _
  · exact fun _ => ⟨List.nodup_nil, fun a ha => by cases ha⟩
