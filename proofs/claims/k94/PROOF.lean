import PyProof.Rows.All
import HandS.ForMost
import HandS.Exc
import HandS.WordsExc
import HandS.Defaults
import HandS.Conv
import HandS.TupLe
import HandS.Flow
import HandS.Style
import HandS.Zip
import HandS.Walk
import HandS.TupMul
import HandS.TupAny
import HandS.Deep
import HandS.IsInst
import KE.SortData
import KE.GoesMore
import HandS.Codes
import HandS.SetFor
import HandS.More
import HandS.OwnEq
import PyProof.InstNe
import PyProof.ReprRoads
import HandS.Strs
import PyProof.SumWalkG
import HandS.Ends
import HandS.HeadEnd
import PySem.Challenge.RW_arrowspaces_k94_whole_shapes_and_orders
import HandS.Words
import HandS.Head0
import HandS.Head1
import HandS.Head2
import HandS.HeadHook1
import HandS.HeadHook2
import HandS.HeadHook3
import HandS.HeadHook4
import KE.KStateDown
import Lean
set_option Elab.async false
set_option linter.all false
set_option maxRecDepth 100000
set_option maxHeartbeats 0
/-! Ev: values as plain data; what an expression, a statement, a def of the text comes to, as a function over such data. -/
namespace Ev
open PySem PySem.Spec L2

inductive D where
  | non | bl (b : Bool) | int (i : Int) | str (x : Str)
  | tup (xs : List D) | lst (xs : List D) | ins (c : Nat) (fs : List D) | dct (ks vs : List D) | scr (xs : List D)
  deriving Inhabited

/-- where classes (and their fields) and exceptions stand -/
structure Tb where
  K : PySem.W.Frag
  ct : Nat → Addr × List Str
  xc : Nat → Addr

mutual
def Rep (T : Tb) (G : Hp) : D → V → Prop
  | .non, v => v = .non
  | .bl b, v => v = .bl b
  | .int i, v => v = .int i
  | .str x, v => v = .str x
  | .tup ds, v => ∃ a vs, v = .ref a ∧ SqT T.K G a vs ∧ Reps T G ds vs
  | .lst ds, v => ∃ a vs, v = .ref a ∧ G a = some (.lst vs) ∧ Reps T G ds vs
  | .scr ds, v => ∃ a vs, v = .ref a ∧ SqL T.K G a vs ∧ Reps T G ds vs
  | .ins c ds, v => ∃ a dx fs, v = .ref a ∧ G a = some (.ins (T.ct c).1 dx fs) ∧ fs.map (·.1) = (T.ct c).2 ∧ Reps T G ds (fs.map (·.2))
  | .dct ks vs, v => ∃ a, v = .ref a ∧ ks = [] ∧ vs = [] ∧ G a = some (.dK [])
def Reps (T : Tb) (G : Hp) : List D → List V → Prop
  | [], vs => vs = []
  | d :: ds, vs => ∃ v r, vs = v :: r ∧ Rep T G d v ∧ Reps T G ds r
end

section
variable {T : Tb} {G G' H H' H2 : Hp}
theorem Same.sqT {a : Addr} {xs : List V} (e : Same G G') (h : SqT T.K G a xs) : SqT T.K G' a xs := by
  rcases h with (h | ⟨o, h⟩) | h
  · exact .inl (.inl (e _ _ h))
  · exact .inl (.inr ⟨o, e _ _ h⟩)
  · exact .inr h
mutual
theorem Rep.mono (e : Same G G') : ∀ {d : D} {v : V}, Rep T G d v → Rep T G' d v
  | .non, v, h => by simpa [Rep] using h
  | .bl b, v, h => by simpa [Rep] using h
  | .int i, v, h => by simpa [Rep] using h
  | .str x, v, h => by simpa [Rep] using h
  | .tup ds, v, h => by
    simp only [Rep] at h ⊢
    obtain ⟨a, vs, e1, h1, h2⟩ := h
    exact ⟨a, vs, e1, Same.sqT e h1, Reps.mono e h2⟩
  | .lst ds, v, h => by
    simp only [Rep] at h ⊢
    obtain ⟨a, vs, e1, h1, h2⟩ := h
    exact ⟨a, vs, e1, e _ _ h1, Reps.mono e h2⟩
  | .scr ds, v, h => by
    simp only [Rep] at h ⊢
    obtain ⟨a, vs, e1, h1, h2⟩ := h
    exact ⟨a, vs, e1, Same.seq e h1, Reps.mono e h2⟩
  | .ins c ds, v, h => by
    simp only [Rep] at h ⊢
    obtain ⟨a, dx, fs, e1, h1, h2, h3⟩ := h
    exact ⟨a, dx, fs, e1, e _ _ h1, h2, Reps.mono e h3⟩
  | .dct ks vs, v, h => by
    simp only [Rep] at h ⊢
    obtain ⟨a, e1, h1, h2, h3⟩ := h
    exact ⟨a, e1, h1, h2, e _ _ h3⟩
theorem Reps.mono (e : Same G G') : ∀ {ds : List D} {vs : List V}, Reps T G ds vs → Reps T G' ds vs
  | [], vs, h => by simpa [Reps] using h
  | d :: ds, vs, h => by
    simp only [Reps] at h ⊢
    obtain ⟨v, r, e1, h1, h2⟩ := h
    exact ⟨v, r, e1, Rep.mono e h1, Reps.mono e h2⟩
end
end
end Ev
namespace Ev
open PySem PySem.Spec L2

/-! ### a frame's names as data: shared, or a list of the frame's own (io: of a caller's, written here) -/
inductive Ent where
  | no | sh (d : D) | own (d : D) | io (d : D) | slf (c : Nat) (ns : List Str) (ds : List D)
  deriving Inhabited
def Ent.mine : Ent → Bool
  | .own _ => true
  | .io _ => true
  | .slf _ _ _ => true
  | _ => false
/-- a value: shared, a new list of one's own, or the list that the name i holds -/
inductive Val where
  | sh (d : D) | fr (d : D) | vr (i : Nat)
  deriving Inhabited
inductive Ou where
  | ok (v : Val) (env : List Ent) | ex (c : Nat)
inductive So where
  | nx (env : List Ent) | rt (v : Val) (env : List Ent) | bk (env : List Ent) | ct (env : List Ent) | ex (c : Nat)

/-- the lists of a caller's that are written here; what is held back from what is shared -/
structure Fx where
  io : List (Nat × Addr)
  hs : Addr → Prop
/-- an object of one's own -/
def Cell (T : Tb) (B G H : Hp) (a : Addr) : D → Prop
  | .lst ds => ∃ vs, H a = some (.lst vs) ∧ Reps T G ds vs ∧ G a = none ∧ B a = none
  | _ => False
def EntOk (T : Tb) (B G H : Hp) (ios : Fx) (i : Nat) (o : Option (Option V)) : Ent → Prop
  | .no => True
  | .sh d => ∃ v, o = some (some v) ∧ Rep T G d v
  | .own d => ∃ a, o = some (some (.ref a)) ∧ Cell T B G H a d
  | .io d => ∃ a, o = some (some (.ref a)) ∧ Cell T B G H a d ∧ (i, a) ∈ ios.io
  | .slf c ns ds => ∃ a dx fs, o = some (some (.ref a)) ∧ H a = some (.ins (T.ct c).1 dx fs) ∧ fs.map (·.1) = ns ∧ Reps T G ds (fs.map (·.2)) ∧ G a = none ∧ B a = none ∧ (i, a) ∈ ios.io
def OwnAt (env : List Ent) (σ : St) (i : Nat) (a : Addr) : Prop := (∃ e, env[i]? = some e ∧ e.mine = true) ∧ σ[i]? = some (some (.ref a))

structure Sep (T : Tb) (B G H : Hp) (ios : Fx) (env : List Ent) (σ : St) : Prop where
  len : env.length = σ.length
  gh : Same G H
  bh : Same B H
  ent : ∀ i e, env[i]? = some e → EntOk T B G H ios i σ[i]? e
  apart : ∀ i j a, i ≠ j → OwnAt env σ i a → OwnAt env σ j a → False
  hd : ∀ a, ios.hs a → G a = none ∧ ∃ o, B a = some o

section
variable {T : Tb} {B G G' H H' : Hp} {ios : Fx} {env : List Ent} {σ : St}

theorem Sep.own (S : Sep T B G H ios env σ) {i : Nat} {a : Addr} (h : OwnAt env σ i a) : G a = none ∧ B a = none ∧ ∃ o, H a = some o := by
  obtain ⟨⟨e, h1, h2⟩, h3⟩ := h
  have q := S.ent i e h1
  cases e with
  | no => cases h2
  | sh d => cases h2
  | own d =>
    obtain ⟨b, h4, h5⟩ := q
    rw [h3] at h4; cases h4
    cases d <;> first | exact h5.elim | (obtain ⟨vs, q1, q2, q3, q4⟩ := h5; exact ⟨q3, q4, _, q1⟩)
  | io d =>
    obtain ⟨b, h4, h5, _⟩ := q
    rw [h3] at h4; cases h4
    cases d <;> first | exact h5.elim | (obtain ⟨vs, q1, q2, q3, q4⟩ := h5; exact ⟨q3, q4, _, q1⟩)
  | slf c ns ds =>
    obtain ⟨b, dx, fs, h4, h5, _, _, h6, h7, _⟩ := q
    rw [h3] at h4; cases h4
    exact ⟨h6, h7, _, h5⟩

/-- what was known grows: new objects alone -/
structure Grow (G H G' H' : Hp) : Prop where
  g : Same G G'
  gh : Same G' H'
  h : Same H H'
  nw : ∀ a, H a ≠ none → G a = none → G' a = none

theorem Cell.grow {a : Addr} {d : D} (g : Grow G H G' H') (c : Cell T B G H a d) : Cell T B G' H' a d := by
  cases d with
  | lst ds =>
    obtain ⟨vs, h1, h2, h3, h4⟩ := c
    exact ⟨vs, g.h _ _ h1, Reps.mono g.g h2, g.nw a (by rw [h1]; simp) h3, h4⟩
  | _ => exact c.elim
theorem EntOk.grow {i : Nat} {o : Option (Option V)} {e : Ent} (g : Grow G H G' H') (c : EntOk T B G H ios i o e) : EntOk T B G' H' ios i o e := by
  cases e with
  | no => trivial
  | sh d =>
    obtain ⟨v, h1, h2⟩ := c
    exact ⟨v, h1, Rep.mono g.g h2⟩
  | own d =>
    obtain ⟨a, h1, h2⟩ := c
    exact ⟨a, h1, h2.grow g⟩
  | io d =>
    obtain ⟨a, h1, h2, h3⟩ := c
    exact ⟨a, h1, h2.grow g, h3⟩
  | slf c ns ds =>
    obtain ⟨a, dx, fs, h1, h2, h3, h4, h5, h6, h7⟩ := c
    exact ⟨a, dx, fs, h1, g.h _ _ h2, h3, Reps.mono g.g h4, g.nw a (by rw [h2]; simp) h5, h6, h7⟩
theorem Sep.grow (S : Sep T B G H ios env σ) (g : Grow G H G' H') : Sep T B G' H' ios env σ :=
  ⟨S.len, g.gh, S.bh.trans g.h, fun i e h => (S.ent i e h).grow g, S.apart, fun a ha => by
    obtain ⟨h1, o, h2⟩ := S.hd a ha
    exact ⟨g.nw a (by rw [S.bh a o h2]; simp) h1, o, h2⟩⟩

def ValOk (T : Tb) (B G H : Hp) (env : List Ent) (σ : St) (v : V) : Val → Prop
  | .sh d => Rep T G d v
  | .fr d => ∃ a, v = .ref a ∧ Cell T B G H a d ∧ ∀ i, ¬ OwnAt env σ i a
  | .vr i => σ[i]? = some (some v) ∧ ∃ d, env[i]? = some (.own d) ∨ env[i]? = some (.io d)
/-- what an operator, a built-in function gives out -/
def ResOk (T : Tb) (G' H H' : Hp) (v : V) : Val → Prop
  | .sh d => Rep T G' d v
  | .fr (.lst ds) => ∃ a vs, v = .ref a ∧ H a = none ∧ G' a = none ∧ H' a = some (.lst vs) ∧ Reps T G' ds vs
  | _ => False
theorem ResOk.val {v : V} {r : Val} (S : Sep T B G H ios env σ) (g : Grow G H G' H') (h : ResOk T G' H H' v r) : ValOk T B G' H' env σ v r := by
  cases r with
  | sh d => exact h
  | vr i => exact h.elim
  | fr d =>
    cases d with
    | lst ds =>
      obtain ⟨a, vs, h1, h2, h3, h4, h5⟩ := h
      refine ⟨a, h1, ⟨vs, h4, h5, h3, ?_⟩, fun i o => ?_⟩
      · cases q : B a with
        | none => rfl
        | some o => have := S.bh a o q; rw [h2] at this; cases this
      · obtain ⟨_, _, o, q⟩ := S.own o
        rw [h2] at q; cases q
    | _ => exact h.elim
/-- a new list is let go into what is shared -/
def Val.norm : Val → Val
  | .fr d => .sh d
  | v => v
theorem rep_lst {a : Addr} {vs : List V} {ds : List D} (h : G a = some (.lst vs)) (r : Reps T G ds vs) : Rep T G (.lst ds) (.ref a) := by
  simp only [Rep]
  exact ⟨a, vs, rfl, h, r⟩
theorem same_upd {a : Addr} {o : HO} (h : G a = none) : Same G (upd G a o) := fun b u e => by
  rw [upd_ne (ne_of_none e h)]; exact e
theorem upd_same_of {a : Addr} {o : HO} (s : Same G H) (h : H a = some o) : Same (upd G a o) H := fun b u e => by
  by_cases q : b = a
  · subst q; rw [upd_same] at e; rw [h]; exact e
  · rw [upd_ne q] at e; exact s b u e
theorem Sep.freeze1 (S : Sep T B G H ios env σ) {a : Addr} {o : HO} (h : H a = some o) (hg : G a = none) (hb : B a = none) (n : ∀ i, ¬ OwnAt env σ i a) : Sep T B (upd G a o) H ios env σ := by
  have sg : Same G (upd G a o) := same_upd hg
  refine ⟨S.len, upd_same_of S.gh h, S.bh, fun i e q => ?_, S.apart, fun b hb' => ?_⟩
  rotate_left
  · obtain ⟨h1, o', h2⟩ := S.hd b hb'
    exact ⟨by rw [upd_ne (ne_of_none h2 hb)]; exact h1, o', h2⟩
  have c := S.ent i e q
  have ne : ∀ b, e.mine = true → σ[i]? = some (some (.ref b)) → b ≠ a := fun b m z w => n i ⟨⟨e, q, m⟩, by rw [← w]; exact z⟩
  cases e with
  | no => trivial
  | sh d =>
    obtain ⟨v, h1, h2⟩ := c
    exact ⟨v, h1, Rep.mono sg h2⟩
  | own d =>
    obtain ⟨b, h1, h2⟩ := c
    refine ⟨b, h1, ?_⟩
    cases d with
    | lst ds =>
      obtain ⟨vs, k1, k2, k3, k4⟩ := h2
      exact ⟨vs, k1, Reps.mono sg k2, by rw [upd_ne (ne b rfl h1)]; exact k3, k4⟩
    | _ => exact h2.elim
  | io d =>
    obtain ⟨b, h1, h2, h3⟩ := c
    refine ⟨b, h1, ?_, h3⟩
    cases d with
    | lst ds =>
      obtain ⟨vs, k1, k2, k3, k4⟩ := h2
      exact ⟨vs, k1, Reps.mono sg k2, by rw [upd_ne (ne b rfl h1)]; exact k3, k4⟩
    | _ => exact h2.elim
  | slf c ns ds =>
    obtain ⟨b, dx, fs, h1, k1, k2, k3, k4, k5, k6⟩ := c
    exact ⟨b, dx, fs, h1, k1, k2, Reps.mono sg k3, by rw [upd_ne (ne b rfl h1)]; exact k4, k5, k6⟩
theorem ValOk.norm (S : Sep T B G H ios env σ) {v : V} {r : Val} (h : ValOk T B G H env σ v r) : ∃ G', Sep T B G' H ios env σ ∧ Same G G' ∧ ValOk T B G' H env σ v r.norm := by
  cases r with
  | sh d => exact ⟨G, S, Same.refl G, h⟩
  | vr i => exact ⟨G, S, Same.refl G, h⟩
  | fr d =>
    obtain ⟨a, h1, h2, h3⟩ := h
    cases d with
    | lst ds =>
      obtain ⟨vs, k1, k2, k3, k4⟩ := h2
      refine ⟨upd G a (.lst vs), S.freeze1 k1 k3 k4 h3, same_upd k3, ?_⟩
      subst h1
      exact rep_lst upd_same (Reps.mono (same_upd k3) k2)
    | _ => exact h2.elim

/-- an operand: shared, or the list of a name (which may change meanwhile) -/
def OpdOk (T : Tb) (G : Hp) (σ : St) (v : V) : Val → Prop
  | .sh d => Rep T G d v
  | .vr i => σ[i]? = some (some v)
  | .fr _ => False
theorem ValOk.opd (S : Sep T B G H ios env σ) {v : V} {r : Val} (h : ValOk T B G H env σ v r) : ∃ G', Sep T B G' H ios env σ ∧ Same G G' ∧ OpdOk T G' σ v r.norm := by
  obtain ⟨G', S', sg, h'⟩ := h.norm S
  refine ⟨G', S', sg, ?_⟩
  cases r with
  | sh d => exact h'
  | fr d => exact h'
  | vr i => exact h'.1
theorem OpdOk.mono {v : V} {r : Val} (e : Same G G') (h : OpdOk T G σ v r) : OpdOk T G' σ v r := by
  cases r with
  | sh d => exact Rep.mono e h
  | vr i => exact h
  | fr d => exact h.elim
/-- what an operand reads as -/
def peek (env : List Ent) : Val → Option D
  | .sh d => some d
  | .fr d => some d
  | .vr i => match env[i]? with
    | some (.own d) => some d
    | some (.io d) => some d
    | some (.sh d) => some d
    | _ => none
/-- read at its top from the heap, below from what is shared -/
def RepT (T : Tb) (G H : Hp) (d : D) (v : V) : Prop := Rep T G d v ∨ ∃ a vs ds, v = .ref a ∧ d = .lst ds ∧ H a = some (.lst vs) ∧ Reps T G ds vs
theorem Cell.repT {a : Addr} {d : D} (h : Cell T B G H a d) : RepT T G H d (.ref a) := by
  cases d with
  | lst ds =>
    obtain ⟨vs, k1, k2, _⟩ := h
    exact .inr ⟨a, vs, ds, rfl, rfl, k1, k2⟩
  | _ => exact h.elim
theorem OpdOk.repT (S : Sep T B G H ios env σ) {v : V} {r : Val} {d : D} (h : OpdOk T G σ v r) (p : peek env r = some d) : RepT T G H d v := by
  cases r with
  | sh e => cases p; exact .inl h
  | fr e => exact h.elim
  | vr i =>
    have h : σ[i]? = some (some v) := h
    unfold peek at p
    cases q : env[i]? with
    | none => simp only [q] at p; cases p
    | some e =>
      have c := S.ent i e q
      rw [h] at c
      simp only [q] at p
      cases e with
      | no => cases p
      | slf c ns ds => cases p
      | sh e =>
        cases p
        obtain ⟨w, h1, h2⟩ := c
        cases h1
        exact .inl h2
      | own e =>
        cases p
        obtain ⟨a, h1, h2⟩ := c
        cases h1
        exact h2.repT
      | io e =>
        cases p
        obtain ⟨a, h1, h2, _⟩ := c
        cases h1
        exact h2.repT
theorem RepT.full {d : D} {v : V} (s : Same G H) (h : RepT T G H d v) : Rep T H d v := by
  rcases h with h | ⟨a, vs, ds, rfl, rfl, h1, h2⟩
  · exact Rep.mono s h
  · exact rep_lst h1 (Reps.mono s h2)
end
end Ev
namespace Ev
open PySem PySem.Spec L2

/-- classes and exceptions: where they stand -/
structure Tc where
  ct : Nat → Addr × List Str
  xc : Nat → Addr
abbrev tb (X : Cx) (c : Tc) : Tb := ⟨X.K, c.ct, c.xc⟩
abbrev F := List Ent → Option Ou
abbrev FS := List Ent → Option So

theorem PE.weak {X : Cx} {e : Expr} {t t' : TE} (h : PE X e t) (w : ∀ σ H Q, t' σ H Q → t σ H Q) : PE X e t' := ⟨fun pins s σ H Q I q => h.run pins s σ H Q I (w σ H Q q)⟩
theorem PA.weak {X : Cx} {e : List Expr} {t t' : TA} (h : PA X e t) (w : ∀ σ H Q, t' σ H Q → t σ H Q) : PA X e t' := ⟨fun pos pins s σ H Q I q => h.run pos pins s σ H Q I (w σ H Q q)⟩
theorem PT.weak {X : Cx} {e : Expr} {t t' : TT} (h : PT X e t) (w : ∀ σ H Q, t' σ H Q → t σ H Q) : PT X e t' := ⟨fun pins s σ H Q I q => h.run pins s σ H Q I (w σ H Q q)⟩
theorem PW.weak {X : Cx} {e : Expr} {t t' : TT} (h : PW X e t) (w : ∀ σ H Q, t' σ H Q → t σ H Q) : PW X e t' := ⟨fun wh pins s σ H Q I q => h.run wh pins s σ H Q I (w σ H Q q)⟩
theorem PS.weak {X : Cx} {e : Stmt} {t t' : TS} (h : PS X e t) (w : ∀ D σ H, t' D σ H → t D σ H) : PS X e t' := ⟨fun pins s σ H D I q => h.run pins s σ H D I (w D σ H q)⟩
theorem PSs.weak {X : Cx} {e : List Stmt} {t t' : TS} (h : PSs X e t) (w : ∀ D σ H, t' D σ H → t D σ H) : PSs X e t' := ⟨fun pins s σ H D I q => h.run pins s σ H D I (w D σ H q)⟩

section
variable (T : Tb) (E : XK)
/-- what an expression comes to -/
def PostE (p : Bool) (B G H : Hp) (ios : Fx) (σ : L2.St) (Q : VK) : Option Ou → Prop
  | none => False
  | some (.ok r env') => ∀ G' H' v, Sep T B G' H' ios env' σ → Same G G' → (p = true → Same H H') → ValOk T B G' H' env' σ v r → Q v H'
  | some (.ex c) => ∀ H' o, Same B H' → (p = true → Same H H') → E (.ref (T.xc c)) o H'
def rd (p : Bool) (f : F) : TE := fun σ H Q => ∃ B G ios env, Sep T B G H ios env σ ∧ PostE T E p B G H ios σ Q (f env)
end
/-- the expression e comes to f; p: it changes nothing that stood -/
structure SE (X : Cx) (c : Tc) (E : XK) (p : Bool) (e : Expr) (f : F) : Prop where
  run : PE X e (rd (tb X c) E p f)

def bE (o : Option Ou) (k : Val → List Ent → Option Ou) : Option Ou := match o with
  | some (.ok r e) => k r e
  | some (.ex c) => some (.ex c)
  | none => none
@[simp] theorem bE_ok {r : Val} {e : List Ent} {k : Val → List Ent → Option Ou} : bE (some (.ok r e)) k = k r e := rfl
@[simp] theorem bE_ex {c : Nat} {k : Val → List Ent → Option Ou} : bE (some (.ex c)) k = some (.ex c) := rfl
@[simp] theorem bE_none {k : Val → List Ent → Option Ou} : bE none k = none := rfl

section
variable {T : Tb} {E : XK} {p p1 p2 : Bool} {B G G1 H : Hp} {ios : Fx} {σ : L2.St} {Q R : VK} {o : Option Ou}
theorem PostE.mono (h : PostE T E p B G H ios σ Q o) (s : Same G G1) : PostE T E p B G1 H ios σ Q o := by
  cases o with
  | none => exact h.elim
  | some u => cases u with
    | ok r e => exact fun G' H' v S sg => h G' H' v S (s.trans sg)
    | ex c => exact h
theorem PostE.bind {k : Val → List Ent → Option Ou} (h : PostE T E (p1 && p2) B G H ios σ Q (bE o k))
    (hk : ∀ r e1 G1 H1 v, Sep T B G1 H1 ios e1 σ → Same G G1 → ValOk T B G1 H1 e1 σ v r → PostE T E p2 B G1 H1 ios σ Q (k r e1) → (p1 = true → Same H H1) → R v H1) : PostE T E p1 B G H ios σ R o := by
  cases o with
  | none => exact h.elim
  | some u => cases u with
    | ex c => exact fun H' o sb sp => h H' o sb fun q => sp (Bool.and_eq_true_iff.mp q).1
    | ok r e1 =>
      intro G1 H1 v S sg sp V
      refine hk r e1 G1 H1 v S sg V ?_ sp
      have h : PostE T E (p1 && p2) B G H ios σ Q (k r e1) := h
      cases hk2 : k r e1 with
      | none => rw [hk2] at h; exact h.elim
      | some u => rw [hk2] at h; cases u with
        | ok r2 e2 => exact fun G' H' v S2 sg2 sp2 => h G' H' v S2 (sg.trans sg2) fun q => (sp (Bool.and_eq_true_iff.mp q).1).trans (sp2 (Bool.and_eq_true_iff.mp q).2)
        | ex c => exact fun H' o sb sp2 => h H' o sb fun q => (sp (Bool.and_eq_true_iff.mp q).1).trans (sp2 (Bool.and_eq_true_iff.mp q).2)
/-- the same, the value read as an operand -/
theorem PostE.bindO {k : Val → List Ent → Option Ou} (h : PostE T E (p1 && p2) B G H ios σ Q (bE o k))
    (hk : ∀ r e1 G1 H1 v, Sep T B G1 H1 ios e1 σ → Same G G1 → OpdOk T G1 σ v r.norm → PostE T E p2 B G1 H1 ios σ Q (k r e1) → (p1 = true → Same H H1) → R v H1) : PostE T E p1 B G H ios σ R o :=
  h.bind fun r e1 G1 H1 v S sg V hq sp => by
    obtain ⟨G2, S2, sg2, V2⟩ := V.opd S
    exact hk r e1 G2 H1 v S2 (sg.trans sg2) V2 (hq.mono sg2) sp
theorem PostE.res {env : List Ent} {r : Val} (h : PostE T E p B G H ios σ Q (some (.ok r env))) (S : Sep T B G H ios env σ) {G' H' : Hp} {v : V} (g : Grow G H G' H') (ro : ResOk T G' H H' v r) : Q v H' :=
  h G' H' v (S.grow g) g.g (fun _ => g.h) (ro.val S g)
theorem Grow.refl (s : Same G H) : Grow G H G H := ⟨Same.refl G, s, Same.refl H, fun _ _ q => q⟩
theorem PostE.give {env : List Ent} {d : D} (h : PostE T E p B G H ios σ Q (some (.ok (.sh d) env))) (S : Sep T B G H ios env σ) {v : V} (r : Rep T G d v) : Q v H :=
  h.res S (Grow.refl S.gh) r
theorem peek_norm {env : List Ent} {r : Val} : peek env r.norm = peek env r := by cases r <;> rfl
end

/-! ### names, constants -/
section
variable {X : Cx} {c : Tc} {E : XK} {pos : Pos}
def varF (i : Nat) : F := fun env => match env[i]? with
  | some (.sh d) => some (.ok (.sh d) env)
  | some (.own _) => some (.ok (.vr i) env)
  | some (.io _) => some (.ok (.vr i) env)
  | _ => none
theorem se_var (i : Nat) {x : Str} (hN : X.N[i]? = some x := by rfl) (hv : Vis X.env.scope x := by first | exact Or.inl rfl | exact Or.inr (Or.inl rfl) | exact Or.inr (Or.inr rfl)) (hd : (x == ("__debug__" : Str)) = false := by decide)
    (hcd : (x == ("__classdict__" : Str)) = false := by decide) : SE X c E true (.Name x pos) (varF i) := by
  refine ⟨PE.weak (pe_var (i := i) hN hv hd hcd) fun σ H Q h => ?_⟩
  obtain ⟨B, G, ios, env, S, h⟩ := h
  unfold varF at h
  cases q : env[i]? with
  | none => simp only [q] at h; exact h.elim
  | some e =>
    have c := S.ent i e q
    simp only [q] at h
    cases e with
    | no => exact h.elim
    | slf _ _ _ => exact h.elim
    | sh d =>
      obtain ⟨v, h1, h2⟩ := c
      exact ⟨v, h1, h.give S h2⟩
    | own d =>
      obtain ⟨a, h1, h2⟩ := c
      exact ⟨_, h1, h G H _ S (Same.refl G) (fun _ => Same.refl H) ⟨h1, d, .inl q⟩⟩
    | io d =>
      obtain ⟨a, h1, h2, _⟩ := c
      exact ⟨_, h1, h G H _ S (Same.refl G) (fun _ => Same.refl H) ⟨h1, d, .inr q⟩⟩
def shF (d : D) : F := fun env => some (.ok (.sh d) env)
theorem se_of {e : Expr} {v : V} {d : D} (h : PE X e (tC v)) (r : ∀ G, Rep (tb X c) G d v) : SE X c E true e (shF d) := by
  refine ⟨PE.weak h fun σ H Q h => ?_⟩
  obtain ⟨B, G, ios, env, S, h⟩ := h
  exact h.give S (r G)
theorem se_int {i j} : SE X c E true (.Constant (.int i) j pos) (shF (.int i)) := se_of pe_int fun _ => by simp [Rep]
theorem se_bl {b j} : SE X c E true (.Constant (.bool b) j pos) (shF (.bl b)) := se_of pe_bl fun _ => by simp [Rep]
theorem se_non {j} : SE X c E true (.Constant .none j pos) (shF .non) := se_of pe_non fun _ => by simp [Rep]
theorem se_str {x j} : SE X c E true (.Constant (.str x) j pos) (shF (.str x)) := se_of pe_str fun _ => by simp [Rep]
theorem se_gint {x : Str} {i : Int} {t : Tok} (hm : X.mg x = some (.int i t)) (hg : Gl X x := by rfl) (hd : (x == ("__debug__" : Str)) = false := by decide) : SE X c E true (.Name x pos) (shF (.int i)) :=
  se_of (v := .int i) (pe_glob hg hm ⟨t, rfl⟩ hd) fun _ => by simp [Rep]
end

/-! ### operators -/
/-- an operator by data -/
def rOp (T : Tb) (op : D → D → Option Val) : R2 := fun x y H Q => ∃ G dx dy r, Same G H ∧ RepT T G H dx x ∧ RepT T G H dy y ∧ op dx dy = some r ∧ ∀ G' H' v, Grow G H G' H' → ResOk T G' H H' v r → Q v H'
def binF (op : D → D → Option Val) (fa fb : F) : F := fun env => bE (fa env) fun ra e1 => bE (fb e1) fun rb e2 => match peek e2 ra, peek e2 rb with
  | some da, some db => (op da db).map fun r => .ok r e2
  | _, _ => none
section
variable {X : Cx} {c : Tc} {E : XK} {pos : Pos} {a b : Expr} {p q : Bool} {fa fb : F}
theorem OpR.weak {f : Value → Value → Sem Value} {r r' : R2} (h : OpR X f r) (w : ∀ x y H Q, r' x y H Q → r x y H Q) : OpR X f r' := fun pins s σ H x y v u Q I rx ry hq => h pins s σ H x y v u Q I rx ry (w x y H Q hq)
theorem bin_core {op : D → D → Option Val} {σ : L2.St} {H : Hp} {Q : VK} (h : rd (tb X c) E (p && q) (binF op fa fb) σ H Q) : tOp (rOp (tb X c) op) (rd (tb X c) E p fa) (rd (tb X c) E q fb) σ H Q := by
  obtain ⟨B, G, ios, env, S, h⟩ := h
  refine ⟨B, G, ios, env, S, h.bindO fun ra e1 G1 H1 x S1 sg1 V1 h1 _ => ?_⟩
  refine ⟨B, G1, ios, e1, S1, PostE.bindO (p2 := true) (by rw [Bool.and_true]; exact h1) fun rb e2 G2 H2 y S2 sg2 V2 h2 _ => ?_⟩
  cases k1 : peek e2 ra with
  | none => simp only [k1] at h2; exact h2.elim
  | some da =>
    cases k2 : peek e2 rb with
    | none => simp only [k1, k2] at h2; exact h2.elim
    | some db =>
      simp only [k1, k2] at h2
      cases k3 : op da db with
      | none => rw [k3] at h2; exact h2.elim
      | some r =>
        rw [k3] at h2
        refine ⟨G2, da, db, r, S2.gh, (V1.mono sg2).repT S2 (by rw [peek_norm]; exact k1), V2.repT S2 (by rw [peek_norm]; exact k2), k3, fun G' H' v g ro => ?_⟩
        exact h2.res S2 g ro
theorem se_bin {op : Operator} {o : D → D → Option Val} (ho : OpR X (binaryOp op) (rOp (tb X c) o)) (ha : SE X c E p a fa) (hb : SE X c E q b fb) : SE X c E (p && q) (.BinOp a op b pos) (binF o fa fb) :=
  ⟨PE.weak (pe_op ho ha.run hb.run) fun _ _ _ h => bin_core h⟩
theorem se_cmp {op : CmpOp} {o : D → D → Option Val} (ho : OpR X (compareOp op) (rOp (tb X c) o)) (ha : SE X c E p a fa) (hb : SE X c E q b fb) (hm : behindInMarks op b = false := by first | exact nomark _ | rfl) : SE X c E (p && q) (.Compare a [op] [b] pos) (binF o fa fb) :=
  ⟨PE.weak (pe_cmpR ho ha.run hb.run hm) fun _ _ _ h => bin_core h⟩
end
end Ev
namespace Ev
open PySem PySem.Spec L2

/-! ### argument lists -/
inductive OuA where
  | ok (rs : List Val) (env : List Ent) | ex (c : Nat)
abbrev FA := List Ent → Option OuA
def OpdsOk (T : Tb) (G : Hp) (σ : L2.St) : List V → List Val → Prop
  | [], [] => True
  | v :: vs, r :: rs => OpdOk T G σ v r ∧ OpdsOk T G σ vs rs
  | _, _ => False
def peeks (env : List Ent) : List Val → Option (List D)
  | [] => some []
  | r :: rs => match peek env r, peeks env rs with
    | some d, some ds => some (d :: ds)
    | _, _ => none
def PostA (T : Tb) (E : XK) (p : Bool) (B G H : Hp) (ios : Fx) (σ : L2.St) (Q : List V → Hp → Prop) : Option OuA → Prop
  | none => False
  | some (.ok rs env') => ∀ G' H' vs, Sep T B G' H' ios env' σ → Same G G' → (p = true → Same H H') → OpdsOk T G' σ vs rs → Q vs H'
  | some (.ex c) => ∀ H' o, Same B H' → (p = true → Same H H') → E (.ref (T.xc c)) o H'
def rdA (T : Tb) (E : XK) (p : Bool) (f : FA) : TA := fun σ H Q => ∃ B G ios env, Sep T B G H ios env σ ∧ PostA T E p B G H ios σ Q (f env)
structure SA (X : Cx) (c : Tc) (E : XK) (p : Bool) (es : List Expr) (f : FA) : Prop where
  run : PA X es (rdA (tb X c) E p f)
  len : ∀ env rs e, f env = some (.ok rs e) → rs.length = es.length

def nilA : FA := fun env => some (.ok [] env)
def consA (fa : F) (fs : FA) : FA := fun env => match fa env with
  | some (.ok r e1) => match fs e1 with
    | some (.ok rs e2) => some (.ok (r.norm :: rs) e2)
    | o => o
  | some (.ex c) => some (.ex c)
  | none => none
theorem OpdsOk.mono {T : Tb} {G G' : Hp} {σ : L2.St} (e : Same G G') : ∀ {vs : List V} {rs : List Val}, OpdsOk T G σ vs rs → OpdsOk T G' σ vs rs
  | [], [], _ => trivial
  | _ :: _, _ :: _, h => ⟨h.1.mono e, OpdsOk.mono e h.2⟩
  | [], _ :: _, h => h.elim
  | _ :: _, [], h => h.elim
section
variable {X : Cx} {c : Tc} {E : XK} {pos : Pos} {e : Expr} {es : List Expr} {p q : Bool} {fa : F} {fs : FA}
theorem sa_nil : SA X c E true [] nilA := ⟨PA.weak pa_nil fun σ H Q h => by
  obtain ⟨B, G, ios, env, S, h⟩ := h
  exact h G H [] S (Same.refl G) (fun _ => Same.refl H) trivial, fun env rs e h => by cases h; rfl⟩
theorem sa_cons (ha : SE X c E p e fa) (hs : SA X c E q es fs) (hst : starEach (e :: es) X.env = (false, eval e X.env) :: starEach es X.env := by rfl) : SA X c E (p && q) (e :: es) (consA fa fs) := by
  refine ⟨PA.weak (pa_cons ha.run hs.run hst) fun σ H Q h => ?_, fun env rs e1 h => ?_⟩
  · obtain ⟨B, G, ios, env, S, h⟩ := h
    refine ⟨B, G, ios, env, S, ?_⟩
    unfold consA at h
    cases k : fa env with
    | none => simp only [k] at h; exact h.elim
    | some u => cases u with
      | ex c =>
        simp only [k] at h
        exact fun H' o sb sp => h H' o sb fun z => sp (Bool.and_eq_true_iff.mp z).1
      | ok r e1 =>
        simp only [k] at h
        intro G1 H1 v S1 sg1 sp1 V1
        obtain ⟨G2, S2, sg2, V2⟩ := V1.opd S1
        refine ⟨B, G2, ios, e1, S2, ?_⟩
        cases k2 : fs e1 with
        | none => simp only [k2] at h; exact h.elim
        | some u => cases u with
          | ex c =>
            simp only [k2] at h
            exact fun H' o sb sp => h H' o sb fun z => (sp1 (Bool.and_eq_true_iff.mp z).1).trans (sp (Bool.and_eq_true_iff.mp z).2)
          | ok rs e2 =>
            simp only [k2] at h
            intro G3 H3 vs S3 sg3 sp3 V3
            exact h G3 H3 (v :: vs) S3 ((sg1.trans sg2).trans sg3) (fun z => (sp1 (Bool.and_eq_true_iff.mp z).1).trans (sp3 (Bool.and_eq_true_iff.mp z).2)) ⟨V2.mono sg3, V3⟩
  · unfold consA at h
    cases k : fa env with
    | none => simp only [k] at h; cases h
    | some u => cases u with
      | ex c => simp only [k] at h; cases h
      | ok r e2 =>
        simp only [k] at h
        cases k2 : fs e2 with
        | none => simp only [k2] at h; cases h
        | some u => cases u with
          | ex c => simp only [k2] at h; cases h
          | ok rs2 e3 =>
            simp only [k2] at h
            cases h
            show rs2.length + 1 = es.length + 1
            rw [hs.len _ _ _ k2]
end

/-! ### lists are let go into what is shared -/
def store (env : List Ent) : Val → Option (D × List Ent)
  | .sh d => some (d, env)
  | .fr d => some (d, env)
  | .vr i => match env[i]? with
    | some (.own d) => some (d, env.set i (.sh d))
    | some (.sh d) => some (d, env)
    | _ => none
def stores : List Ent → List Val → Option (List D × List Ent)
  | env, [] => some ([], env)
  | env, r :: rs => match store env r with
    | none => none
    | some (d, e1) => match stores e1 rs with
      | none => none
      | some (ds, e2) => some (d :: ds, e2)
section
variable {T : Tb} {B G G' H H' : Hp} {ios : Fx} {env env' : List Ent} {σ : L2.St}
theorem OwnAt.set {i j : Nat} {a : Addr} {d : D} (h : OwnAt (env.set i (.sh d)) σ j a) : OwnAt env σ j a ∧ j ≠ i := by
  obtain ⟨⟨e, h1, h2⟩, h3⟩ := h
  by_cases q : j = i
  · subst q
    by_cases hl : j < env.length
    · rw [List.getElem?_set_self hl] at h1; cases h1; cases h2
    · rw [List.getElem?_eq_none (by rw [List.length_set]; omega)] at h1; cases h1
  · rw [List.getElem?_set_ne (Ne.symm q)] at h1
    exact ⟨⟨⟨e, h1, h2⟩, h3⟩, q⟩
/-- a list of one's own is let go -/
theorem Sep.freeze (S : Sep T B G H ios env σ) {i : Nat} {d : D} {a : Addr} (q : env[i]? = some (.own d)) (h : σ[i]? = some (some (.ref a))) :
    ∃ G1, Sep T B G1 H ios (env.set i (.sh d)) σ ∧ Same G G1 ∧ Rep T G1 d (.ref a) ∧ G1 a = H a := by
  have c := S.ent i _ q
  obtain ⟨b, h1, h2⟩ := c
  rw [h] at h1; cases h1
  have hi : i < env.length := (List.getElem?_eq_some_iff.mp q).1
  cases d with
  | lst ds =>
    obtain ⟨vs, k1, k2, k3, k4⟩ := h2
    have sg : Same G (upd G a (.lst vs)) := same_upd k3
    have rp : Rep T (upd G a (.lst vs)) (.lst ds) (.ref a) := rep_lst upd_same (Reps.mono sg k2)
    refine ⟨upd G a (.lst vs), ?_, sg, rp, by rw [upd_same, k1]⟩
    have S1 : Sep T B G H ios (env.set i .no) σ := by
      refine ⟨by rw [List.length_set]; exact S.len, S.gh, S.bh, fun j e z => ?_, fun j l b n o1 o2 => ?_, S.hd⟩
      · by_cases w : j = i
        · subst w
          rw [List.getElem?_set_self hi] at z; cases z; trivial
        · rw [List.getElem?_set_ne (Ne.symm w)] at z
          exact S.ent j e z
      · have aux : ∀ j, OwnAt (env.set i .no) σ j b → OwnAt env σ j b := fun j o => by
          obtain ⟨⟨e, h1, h2⟩, h3⟩ := o
          by_cases w : j = i
          · subst w
            rw [List.getElem?_set_self hi] at h1; cases h1; cases h2
          · rw [List.getElem?_set_ne (Ne.symm w)] at h1
            exact ⟨⟨e, h1, h2⟩, h3⟩
        exact S.apart j l b n (aux j o1) (aux l o2)
    have n : ∀ j, ¬ OwnAt (env.set i .no) σ j a := fun j o => by
      obtain ⟨⟨e, h1, h2⟩, h3⟩ := o
      by_cases w : j = i
      · subst w
        rw [List.getElem?_set_self hi] at h1; cases h1; cases h2
      · rw [List.getElem?_set_ne (Ne.symm w)] at h1
        exact S.apart j i a w ⟨⟨e, h1, h2⟩, h3⟩ ⟨⟨_, q, rfl⟩, h⟩
    have S2 := S1.freeze1 k1 k3 k4 n
    refine ⟨by rw [List.length_set]; exact S.len, S2.gh, S2.bh, fun j e z => ?_, fun j l b n o1 o2 => S.apart j l b n o1.set.1 o2.set.1, S2.hd⟩
    by_cases w : j = i
    · subst w
      rw [List.getElem?_set_self hi] at z; cases z
      exact ⟨_, h, rp⟩
    · rw [List.getElem?_set_ne (Ne.symm w)] at z
      exact S2.ent j e (by rw [List.getElem?_set_ne (Ne.symm w)]; exact z)
  | _ => exact h2.elim
theorem Sep.store (S : Sep T B G H ios env σ) {v : V} {r : Val} {d : D} (h : OpdOk T G σ v r) (q : store env r = some (d, env')) : ∃ G1, Sep T B G1 H ios env' σ ∧ Same G G1 ∧ Rep T G1 d v := by
  cases r with
  | sh e => cases q; exact ⟨G, S, Same.refl G, h⟩
  | fr e => exact h.elim
  | vr i =>
    have h : σ[i]? = some (some v) := h
    unfold Ev.store at q
    cases z : env[i]? with
    | none => simp only [z] at q; cases q
    | some e =>
      simp only [z] at q
      have c := S.ent i e z
      cases e with
      | no => cases q
      | io d => cases q
      | slf _ _ _ => cases q
      | sh e =>
        cases q
        obtain ⟨w, h1, h2⟩ := c
        rw [h] at h1; cases h1
        exact ⟨G, S, Same.refl G, h2⟩
      | own e =>
        cases q
        obtain ⟨a, h1, _⟩ := c
        rw [h] at h1; cases h1
        obtain ⟨G1, S1, sg, r, _⟩ := S.freeze z h
        exact ⟨G1, S1, sg, r⟩
theorem Sep.stores : ∀ {rs : List Val} {vs : List V} {G : Hp} {env env' : List Ent} {ds : List D}, Sep T B G H ios env σ → OpdsOk T G σ vs rs → stores env rs = some (ds, env') → ∃ G1, Sep T B G1 H ios env' σ ∧ Same G G1 ∧ Reps T G1 ds vs
  | [], [], G, env, env', ds, S, _, q => by cases q; exact ⟨G, S, Same.refl G, rfl⟩
  | [], _ :: _, _, _, _, _, _, h, _ => h.elim
  | _ :: _, [], _, _, _, _, _, h, _ => h.elim
  | r :: rs, v :: vs, G, env, env', ds, S, h, q => by
    unfold Ev.stores at q
    cases k : Ev.store env r with
    | none => simp only [k] at q; cases q
    | some u =>
      obtain ⟨d, e1⟩ := u
      simp only [k] at q
      cases k2 : Ev.stores e1 rs with
      | none => simp only [k2] at q; cases q
      | some u =>
        obtain ⟨ds2, e2⟩ := u
        simp only [k2] at q
        cases q
        obtain ⟨G1, S1, sg1, r1⟩ := S.store h.1 k
        obtain ⟨G2, S2, sg2, r2⟩ := Sep.stores S1 (h.2.mono sg1) k2
        exact ⟨G2, S2, sg1.trans sg2, v, vs, rfl, Rep.mono sg2 r1, r2⟩
theorem Reps.length : ∀ {ds : List D} {vs : List V}, Reps T G ds vs → vs.length = ds.length
  | [], vs, h => by
    have : vs = [] := by simpa [Reps] using h
    rw [this]; rfl
  | d :: ds, vs, h => by
    simp only [Reps] at h
    obtain ⟨v, r, e, _, h2⟩ := h
    rw [e, List.length_cons, List.length_cons, Reps.length h2]
theorem OpdsOk.length : ∀ {vs : List V} {rs : List Val}, OpdsOk T G σ vs rs → vs.length = rs.length
  | [], [], _ => rfl
  | _ :: _, _ :: _, h => by rw [List.length_cons, List.length_cons, OpdsOk.length h.2]
  | [], _ :: _, h => h.elim
  | _ :: _, [], h => h.elim
end

/-! ### displays -/
def bA (o : Option OuA) (k : List Val → List Ent → Option Ou) : Option Ou := match o with
  | some (.ok r e) => k r e
  | some (.ex c) => some (.ex c)
  | none => none
@[simp] theorem bA_ok {r : List Val} {e : List Ent} {k : List Val → List Ent → Option Ou} : bA (some (.ok r e)) k = k r e := rfl
theorem PostA.bind {T : Tb} {E : XK} {p1 p2 : Bool} {B G H : Hp} {ios : Fx} {σ : L2.St} {Q : VK} {R : List V → Hp → Prop} {o : Option OuA} {k : List Val → List Ent → Option Ou} (h : PostE T E (p1 && p2) B G H ios σ Q (bA o k))
    (hk : ∀ rs e1 G1 H1 vs, o = some (.ok rs e1) → Sep T B G1 H1 ios e1 σ → Same G G1 → OpdsOk T G1 σ vs rs → PostE T E p2 B G1 H1 ios σ Q (k rs e1) → (p1 = true → Same H H1) → R vs H1) : PostA T E p1 B G H ios σ R o := by
  cases o with
  | none => exact h.elim
  | some u => cases u with
    | ex c => exact fun H' o sb sp => h H' o sb fun q => sp (Bool.and_eq_true_iff.mp q).1
    | ok rs e1 =>
      intro G1 H1 vs S sg sp V
      refine hk rs e1 G1 H1 vs rfl S sg V ?_ sp
      have h : PostE T E (p1 && p2) B G H ios σ Q (k rs e1) := h
      cases hk2 : k rs e1 with
      | none => rw [hk2] at h; exact h.elim
      | some u => rw [hk2] at h; cases u with
        | ok r2 e2 => exact fun G' H' v S2 sg2 sp2 => h G' H' v S2 (sg.trans sg2) fun q => (sp (Bool.and_eq_true_iff.mp q).1).trans (sp2 (Bool.and_eq_true_iff.mp q).2)
        | ex c => exact fun H' o sb sp2 => h H' o sb fun q => (sp (Bool.and_eq_true_iff.mp q).1).trans (sp2 (Bool.and_eq_true_iff.mp q).2)
def dispF (mk : List D → Val) (fs : FA) : F := fun env => bA (fs env) fun rs e1 => match stores e1 rs with
  | some (ds, e2) => some (.ok (mk ds) e2)
  | none => none
def tupF : FA → F := dispF fun ds => .sh (.tup ds)
def lstF : FA → F := dispF fun ds => .fr (.lst ds)
section
variable {T : Tb} {B G G' H H' : Hp} {ios : Fx} {env env' : List Ent} {σ : L2.St}
theorem upd_same2 {a : Addr} {o : HO} (s : Same G H) (h : H a = none) : Same (upd G a o) (upd H a o) := fun b u e => by
  by_cases q : b = a
  · subst q; rw [upd_same] at e ⊢; exact e
  · rw [upd_ne q] at e ⊢; exact s b u e
theorem none_of_same (s : Same G H) {a : Addr} (h : H a = none) : G a = none := by
  cases q : G a with
  | none => rfl
  | some o => have := s a o q; rw [h] at this; cases this
/-- a new object, shared at once -/
theorem Grow.new {a : Addr} {o : HO} (s : Same G H) (h : H a = none) : Grow G H (upd G a o) (upd H a o) :=
  ⟨same_upd (none_of_same s h), upd_same2 s h, same_upd h, fun b hb gb => by
    have : b ≠ a := fun e => hb (by rw [e]; exact h)
    rw [upd_ne this]; exact gb⟩
/-- a new object of one's own -/
theorem Grow.mine {a : Addr} {o : HO} (s : Same G H) (h : H a = none) : Grow G H G (upd H a o) :=
  ⟨Same.refl G, s.trans (same_upd h), same_upd h, fun b hb gb => gb⟩
theorem rep_tup {a : Addr} {vs : List V} {ds : List D} (h : G a = some (.tup vs)) (r : Reps T G ds vs) : Rep T G (.tup ds) (.ref a) := by
  simp only [Rep]
  exact ⟨a, vs, rfl, SqT.of h, r⟩
theorem res_tup {a : Addr} {vs : List V} {ds : List D} (s : Same G H) (h : H a = none) (r : Reps T G ds vs) : Grow G H (upd G a (.tup vs)) (upd H a (.tup vs)) ∧ ResOk T (upd G a (.tup vs)) H (upd H a (.tup vs)) (.ref a) (.sh (.tup ds)) :=
  ⟨Grow.new s h, rep_tup upd_same (Reps.mono (same_upd (none_of_same s h)) r)⟩
theorem res_lst {a : Addr} {vs : List V} {ds : List D} (s : Same G H) (h : H a = none) (r : Reps T G ds vs) : Grow G H G (upd H a (.lst vs)) ∧ ResOk T G H (upd H a (.lst vs)) (.ref a) (.fr (.lst ds)) :=
  ⟨Grow.mine s h, a, vs, rfl, h, none_of_same s h, upd_same, r⟩
end
section
variable {X : Cx} {c : Tc} {E : XK} {pos : Pos} {e : Expr} {es : List Expr} {p q : Bool} {fa : F} {fs : FA}
theorem line1000 {n : Nat} (h : n ≤ 1000) : n ≤ sizeLine := Nat.le_of_lt (small1000 h)
theorem se_tup {x1} (h : SA X c E p es fs) (hl : es.length ≤ 1000 := by decide) : SE X c E p (.Tuple es x1 pos) (tupF fs) := by
  refine ⟨PE.weak (pe_tup h.run) fun σ H Q hq => ?_⟩
  obtain ⟨B, G, ios, env, S, hq⟩ := hq
  refine ⟨B, G, ios, env, S, PostA.bind (p2 := true) (by rw [Bool.and_true]; exact hq) fun rs e1 G1 H1 vs k S1 sg1 V1 h1 _ => ?_⟩
  cases k2 : stores e1 rs with
  | none => rw [k2] at h1; exact h1.elim
  | some u =>
    obtain ⟨ds, e2⟩ := u
    rw [k2] at h1
    obtain ⟨G2, S2, sg2, r2⟩ := S1.stores V1 k2
    refine ⟨by rw [V1.length, h.len _ _ _ k]; exact line1000 hl, fun a ha => ?_⟩
    obtain ⟨g, ro⟩ := res_tup (T := tb X c) S2.gh ha r2
    exact (h1.mono sg2).res S2 g ro
theorem se_lst (h : SA X c E p es fs) (hl : es.length ≤ 1000 := by decide) : SE X c E p (.List es pos) (lstF fs) := by
  refine ⟨PE.weak (pe_lst h.run) fun σ H Q hq => ?_⟩
  obtain ⟨B, G, ios, env, S, hq⟩ := hq
  refine ⟨B, G, ios, env, S, PostA.bind (p2 := true) (by rw [Bool.and_true]; exact hq) fun rs e1 G1 H1 vs k S1 sg1 V1 h1 _ => ?_⟩
  cases k2 : stores e1 rs with
  | none => rw [k2] at h1; exact h1.elim
  | some u =>
    obtain ⟨ds, e2⟩ := u
    rw [k2] at h1
    obtain ⟨G2, S2, sg2, r2⟩ := S1.stores V1 k2
    refine ⟨by rw [V1.length, h.len _ _ _ k]; exact line1000 hl, fun a ha => ?_⟩
    obtain ⟨g, ro⟩ := res_lst (T := tb X c) S2.gh ha r2
    exact (h1.mono sg2).res S2 g ro
end
end Ev
/-! Ev: defs that are called where no repr is under way (so that repr of data can be told) -/
namespace Ev
open PySem PySem.Spec L2
open PyProof.Rows (envOfC)

/-- as FnOk, for calls under no repr -/
structure FnG (P : Program) (w : World) (K : PySem.W.Frag) (mg : Str → Option Value) (base : Heap) (CX : CXT) (k : Nat) (f : Addr) (fd : FuncData) (ps : List Str) (sp : Sp) : Prop where
  len : ∀ vs H Q E, sp vs H Q E → vs.length = ps.length
  go : ∀ (A : Around), Room k A → A.guards = some [] → ∀ (outer : List Env) (s : Shared) (H : Hp), Env0 P w K mg base A outer s H → ∀ (args : Args) (us : List Value) (vs : List V), BindsTo s fd args (ps.zip us) → Vals vs us →
    ∀ (Q : VK) (E : XK), sp vs H Q E → codeAny (model P w) A (.call (.ref f) args) (CR CX outer P w H s Q E) s
section
variable {P : Program} {w : World} {K : PySem.W.Frag} {mg : Str → Option Value} {base : Heap} {CX : CXT}
theorem FnG.mono {j k : Nat} {f : Addr} {fd : FuncData} {ps : List Str} {sp : Sp} (F : FnG P w K mg base CX j f fd ps sp) (h : j ≤ k) : FnG P w K mg base CX k f fd ps sp :=
  ⟨F.len, fun A r => F.go A (r.mono h)⟩
theorem FnG.imp {k : Nat} {f : Addr} {fd : FuncData} {ps : List Str} {sp sp' : Sp} (F : FnG P w K mg base CX k f fd ps sp) (h : ∀ vs H Q E, sp' vs H Q E → sp vs H Q E) : FnG P w K mg base CX k f fd ps sp' :=
  ⟨fun vs H Q E q => F.len _ _ _ _ (h _ _ _ _ q), fun A r g outer s H e args us vs b v Q E q => F.go A r g outer s H e args us vs b v Q E (h _ _ _ _ q)⟩
/-- a def by its body -/
theorem fnG_of {k : Nat} {f : Addr} {nm ql : Str} {pa : Arguments} {bd : List Stmt} {sc : Scope} {dV kV dc pm cdv ct oc : Value} {an od : Option Addr} {sl : Array (Option Value)} {N ps : List Str} {sp : Sp}
    (at_ : K.lookup f = some ⟨oc, od, .func (PySem.W.fnOf nm ql pa bd sc dV kV dc pm an cdv ct), sl⟩) (cd : PySem.W.codeIn K cdv ql = true) (S : FnScope N ps sc) (len : ∀ vs H Q E, sp vs H Q E → vs.length = ps.length)
    (body : ∀ (A : Around), A.guards = some [] → ∀ (outer : List Env) (s : Shared) (H : Hp) (vs : List V) (Q : VK) (E : XK), Room k (A.deeper (envOfC ql sc s.heap.objs.size f cdv)) → sp vs H Q E →
      ∃ t, PSs (cxOf CX P w K mg base N ql sc f cdv A outer s H E) bd t ∧ t { nx := fun _ H' => Q .non H', rt := Q } (L2.start N vs) H) :
    FnG P w K mg base CX (k + 1) f (PySem.W.fnOf nm ql pa bd sc dV kV dc pm an cdv ct) ps sp := by
  constructor
  · exact len
  intro A room gd outer s H e0 args us vs bind vals Q E want
  have inK : K.In s.heap := e0.mod.kin.keeps fun b o q => (e0.bs b o q).1
  have kinds : ∀ y ∈ ps.zip us, sc.names.lookup y.1 = some .local ∨ (sc.names.lookup y.1 = some .cell ∧ ((cellsFrom (s.heap.objs.size + 1) sc.names []).lookup y.1).isSome = true) := by
    rintro ⟨n, v⟩ hy
    cases S.par n (List.of_mem_zip hy).1 with
    | inl q => exact .inl q
    | inr q => exact .inr ⟨q, PySem.W.cellsFrom_some _ _ _ (.inl q)⟩
  have nolim : s.heap.NoLimit := e0.mod.nolimit.keeps fun b o q => (e0.bs b o q).1
  refine codeAny_call_function room.depth (inK _ _ at_) rfl S.co S.gen rfl (PySem.W.codeRec_of inK cd) (bind _ _ _ _ ?_)
  apply wpAny_newFunctionEnv_cells S.kind kinds
  intro env eenv s1 called
  subst eenv
  refine ⟨nolim.keeps called.toInCall.keep, codeAny_func ?_⟩
  have I := inv_start (CX := CX) (E := E) S room.hd e0 (len _ _ _ _ want) vals called
  obtain ⟨t, pt, ht⟩ := body A gd outer s H vs Q E (room.deeper _) want
  apply wpAny_mono (pt.run [] s1 (L2.start N vs) H _ I ht)
  · intro fl s' end_
    cases fl with
    | ret u => obtain ⟨v, _, H', J, rv, q⟩ := end_; exact ⟨v, H', J.os, J.bare, J.base, J.hok, rv, q⟩
    | next => obtain ⟨_, H', J, q⟩ := end_; exact ⟨V.non, H', J.os, J.bare, J.base, J.hok, rfl, q⟩
    | brk => obtain ⟨_, _, _, q⟩ := end_; exact q.elim
    | cont => obtain ⟨_, _, _, q⟩ := end_; exact q.elim
  · exact fun _ _ q => q
end
section
variable {X : Cx} {CX : CXT} {k : Nat} {f C : Addr} {fd : FuncData} {ps : List Str} {sp : Sp} {E : XK} {x m : Str} {p pos apos : Pos} {e o : Expr} {es : List Expr} {ta : TE} {t : TA}
theorem runG {pins : List (Addr × Obj)} {σ : L2.St} {H : Hp} {s : Shared} {Q : VK} {us : List Value} {vs : List V} (F : FnG X.prog X.w X.K X.mg X.base CX k f fd ps sp) (room : Room k X.A) (gd : X.A.guards = some []) (hb : Binds X.K fd ps []) (pass : Passes CX X E)
    (I : Inv X pins σ H s) (vals : Vals vs us) (want : sp vs H Q E) : wpAny (model X.prog X.w) X.A (call (.ref f) us) (EP X pins σ Q) X.xe s := by
  have same_len : (us ++ ([] : List Value)).length = ps.length := by rw [List.append_nil, ← vals.length]; exact F.len _ _ _ _ want
  have bt := hb s us I.kIn same_len
  rw [List.append_nil] at bt
  have ran := F.go X.A room gd X.stack s H I.env0 ⟨us, []⟩ us vs bt vals Q E want
  refine wpAny_call (codeAny_mono ran ?_)
  intro r s' hq
  match r, hq with
  | .error e, hq => exact pass pins σ H s e s' I hq
  | .ok (.ret u), hq => exact I.after hq
  | .ok .next, hq => exact hq.elim
  | .ok .brk, hq => exact hq.elim
  | .ok .cont, hq => exact hq.elim
def tCl (sp : Sp) (E : XK) (t : TA) : TE := fun σ H Q => t σ H fun vs H1 => sp vs H1 Q E
theorem pe_callG (F : FnG X.prog X.w X.K X.mg X.base CX k f fd ps sp) (room : Room k X.A) (gd : X.A.guards = some []) (hg : Gl X x) (hm : X.mg x = some (.ref f)) (hk : PySem.W.keepIn X.K (.ref f) = true) (hb : Binds X.K fd ps []) (pass : Passes CX X E)
    (ha : PA X (e :: es) t) (nodebug : (x == ("__debug__" : Str)) = false := by decide) (st : starEach (e :: es) X.env = (false, eval e X.env) :: starEach es X.env := by rfl) (pl : (backTo pos (starEach es X.env)).any (·.1) = false := by rfl) :
    PE X (.Call (.Name x p) (e :: es) [] pos) (tCl sp E t) := by
  constructor
  intro pins s σ H Q I h
  apply wpAny_Call_Name_kw (ld_glob I hg hm ?_ nodebug)
  apply PySem.W.callWith_K (h₀ := X.base) I.ok.mod.kin hk ?_ st pl
  refine thn (ha.run pos pins s σ H _ I h) ?_
  rintro us s1 ⟨vs, H1, I1, vals, want⟩
  exact ⟨I1.kIn, runG F room gd hb pass I1 vals want⟩
def tMt (C : Addr) (m : Str) (sp : Sp) (E : XK) (ta : TE) : TE := fun σ H Q => ta σ H fun x H1 => ∃ a dx fs, x = .ref a ∧ H1 a = some (.ins C dx fs) ∧ fs.lookup m = none ∧ sp [x] H1 Q E
/-- o.m() -/
theorem pe_meth0G {pl : Sem Bool} (he : PE X o ta) (c : Cls X.K C) (hm : Meth X.K C m f) (F : FnG X.prog X.w X.K X.mg X.base CX k f fd ps sp) (room : Room k X.A) (gd : X.A.guards = some []) (hb : Binds X.K fd ps []) (pass : Passes CX X E)
    (shape : eval (.Call (.Attribute o m apos) [] [] pos) X.env = (do let ov ← eval o X.env; standAt apos.atName; let (f, first) ← holding [ov] (getMethod ov m pl); callWith pos f first (backTo pos (starEach [] X.env)) (backToKw pos (keywordEach [] X.env))) := by rfl) :
    PE X (.Call (.Attribute o m apos) [] [] pos) (tMt C m sp E ta) := by
  constructor
  intro pins s σ H Q I h
  apply PySem.W.methodCall_KW (pl := pl) ?_ shape
  refine thn (he.run pins s σ H _ I h) ?_
  rintro u s1 ⟨x, H1, I1, rx, a, dx, fs, ex, ea, l, want⟩
  subst ex
  obtain rfl : u = Value.ref a := rx
  apply getmeth_ok I1 ea c hm l
  exact PySem.W.callWith_K0 (first := [.ref a]) I1.kIn hm.kp (runG (us := [.ref a]) (vs := [.ref a]) F room gd hb pass I1 (.cons rfl .nil) want)
def tMk (C : Addr) (sp : Sp) (E : XK) (t : TA) : TE := fun σ H Q => t σ H fun vs H1 => ∀ x dx, H1 x = none → H1 dx = none → dx ≠ x → sp (.ref x :: vs) (upd (upd H1 dx (.own x)) x (.ins C dx [])) (fun v H2 => v = .non ∧ Q (.ref x) H2) E
theorem guards_make {A : Around} {C : Addr} {us : List Value} {kw : List (Str × Value)} (h : A.guards = some []) : (A.under (.builtin "type.__call__" ⟨.ref C :: us, kw⟩)).guards = some [] := by
  show pushGuards (Code.guards (.builtin "type.__call__" ⟨.ref C :: us, kw⟩)) A.guards = some []
  rw [h]
  have : (Code.builtin "type.__call__" ⟨.ref C :: us, kw⟩).isGuard = false := by
    show guardIds.contains "type.__call__" = false
    decide +kernel
  simp [Code.guards, this, pushGuards]
theorem pe_makeG (M : Mk X.K C f) (F : FnG X.prog X.w X.K X.mg X.base CX k f fd ps sp) (room : Room (k + 1) X.A) (gd : X.A.guards = some []) (hg : Gl X x) (hm : X.mg x = some (.ref C)) (hb : Binds X.K fd ps []) (pass : Passes CX X E)
    (ha : PA X (e :: es) t) (nodebug : (x == ("__debug__" : Str)) = false := by decide) (st : starEach (e :: es) X.env = (false, eval e X.env) :: starEach es X.env := by rfl) (pl : (backTo pos (starEach es X.env)).any (·.1) = false := by rfl) :
    PE X (.Call (.Name x p) (e :: es) [] pos) (tMk C sp E t) := by
  constructor
  intro pins s σ H Q I h
  apply wpAny_Call_Name_kw (ld_glob I hg hm ?_ nodebug)
  apply PySem.W.callWith_K (h₀ := X.base) I.ok.mod.kin M.kp ?_ st pl
  refine thn (ha.run pos pins s σ H _ I h) ?_
  rintro us s1 ⟨vs, H1, I1, vals, want⟩
  refine ⟨I1.kIn, ?_⟩
  have w1 := want (s1.heap.objs.size + 1) s1.heap.objs.size (I1.hok.fresh (Nat.le_succ _)) (I1.hok.fresh (Nat.le_refl _)) (Nat.ne_of_lt (Nat.lt_succ_self _))
  have I2 := Inv.made (C := C) I1
  have v2 : Vals (V.ref (s1.heap.objs.size + 1) :: vs) (Value.ref (s1.heap.objs.size + 1) :: us) := .cons rfl vals
  have l2 : (Value.ref (s1.heap.objs.size + 1) :: us ++ ([] : List Value)).length = ps.length := by
    rw [List.append_nil, ← v2.length]; exact F.len _ _ _ _ w1
  have b2 := hb _ (Value.ref (s1.heap.objs.size + 1) :: us) I2.kIn l2
  rw [List.append_nil] at b2
  have ran := F.go _ (room.make C us []) (guards_make gd) X.stack _ _ (I2.env0.make C us []) ⟨Value.ref (s1.heap.objs.size + 1) :: us, []⟩ _ _ b2 v2 _ E w1
  refine wpAny_call (make_map (f := f) I1.kIn M.makes M.init (beq_iff_eq.mp M.fn) (codeAny_mono ran ?_))
  intro r s' hq
  match r, hq with
  | .error e, hq => exact pass pins σ _ _ e s' I2 hq
  | .ok (.ret u), hq =>
    obtain ⟨v, H', I3, rv, ev, q3⟩ := I2.after hq
    subst ev
    exact ⟨rv, V.ref (s1.heap.objs.size + 1), H', I3, rfl, q3⟩
  | .ok .next, hq => exact hq.elim
  | .ok .brk, hq => exact hq.elim
  | .ok .cont, hq => exact hq.elim
end
end Ev
namespace Ev
open PySem PySem.Spec L2

/-! ### built-in functions by values -/
def RepTs (T : Tb) (G H : Hp) : List D → List V → Prop
  | [], [] => True
  | d :: ds, v :: vs => RepT T G H d v ∧ RepTs T G H ds vs
  | _, _ => False
def rCl (T : Tb) (op : List D → Option Val) : List V → Hp → VK → Prop := fun vs H Q => ∃ G ds r, Same G H ∧ RepTs T G H ds vs ∧ op ds = some r ∧ ∀ G' H' v, Grow G H G' H' → ResOk T G' H H' v r → Q v H'
theorem OpdsOk.repTs {T : Tb} {B G H : Hp} {ios : Fx} {env : List Ent} {σ : L2.St} (S : Sep T B G H ios env σ) : ∀ {vs : List V} {rs : List Val} {ds : List D}, OpdsOk T G σ vs rs → peeks env rs = some ds → RepTs T G H ds vs
  | [], [], ds, _, q => by cases q; trivial
  | [], _ :: _, _, h, _ => h.elim
  | _ :: _, [], _, h, _ => h.elim
  | v :: vs, r :: rs, ds, h, q => by
    unfold peeks at q
    cases k : peek env r with
    | none => simp only [k] at q; cases q
    | some d =>
      cases k2 : peeks env rs with
      | none => simp only [k, k2] at q; cases q
      | some ds2 =>
        simp only [k, k2] at q
        cases q
        exact ⟨h.1.repT S k, OpdsOk.repTs S h.2 k2⟩
def clF (op : List D → Option Val) (fs : FA) : F := fun env => bA (fs env) fun rs e1 => match peeks e1 rs with
  | some ds => (op ds).map fun r => .ok r e1
  | none => none
section
variable {X : Cx} {c : Tc} {E : XK} {pos : Pos} {x : Str} {px : Pos} {e : Expr} {es : List Expr} {p : Bool} {fs : FA}
theorem cl_core {op : List D → Option Val} {σ : L2.St} {H : Hp} {Q : VK} (h : rd (tb X c) E p (clF op fs) σ H Q) : tCB (rCl (tb X c) op) (rdA (tb X c) E p fs) σ H Q := by
  obtain ⟨B, G, ios, env, S, hq⟩ := h
  refine ⟨B, G, ios, env, S, PostA.bind (p2 := true) (by rw [Bool.and_true]; exact hq) fun rs e1 G1 H1 vs k S1 sg1 V1 h1 _ => ?_⟩
  cases k2 : peeks e1 rs with
  | none => rw [k2] at h1; exact h1.elim
  | some ds =>
    simp only [k2] at h1
    cases k3 : op ds with
    | none => rw [k3] at h1; exact h1.elim
    | some r =>
      rw [k3] at h1
      exact ⟨G1, ds, r, S1.gh, V1.repTs S1 k2, k3, fun G' H' v g ro => PostE.res h1 S1 g ro⟩
theorem se_callB {id : String} {op : List D → Option Val} (hc : CallR X (.builtin id) (rCl (tb X c) op)) (hv : bootBuiltins x = some (.builtin id)) (hm : X.mg x = none) (ha : SA X c E p (e :: es) fs) (hg : Gl X x := by rfl) (hn : x ≠ "__name__" := by decide) (hdb : (x == ("__debug__" : Str)) = false := by decide)
    (he : starEach (e :: es) X.env = (false, eval e X.env) :: starEach es X.env := by rfl) (hpl : (backTo pos (starEach es X.env)).any (·.1) = false := by rfl) : SE X c E p (.Call (.Name x px) (e :: es) [] pos) (clF op fs) :=
  ⟨PE.weak (pe_callB hc hg hm hv ha.run hn hdb he hpl) fun _ _ _ h => cl_core h⟩
theorem se_callTy {T : String} {op : List D → Option Val} (hc : CallR X (.type T) (rCl (tb X c) op)) (hv : bootBuiltins x = some (.type T)) (hm : X.mg x = none) (ha : SA X c E p (e :: es) fs) (hg : Gl X x := by rfl) (hn : x ≠ "__name__" := by decide) (hdb : (x == ("__debug__" : Str)) = false := by decide)
    (he : starEach (e :: es) X.env = (false, eval e X.env) :: starEach es X.env := by rfl) (hpl : (backTo pos (starEach es X.env)).any (·.1) = false := by rfl) : SE X c E p (.Call (.Name x px) (e :: es) [] pos) (clF op fs) :=
  ⟨PE.weak (pe_callTy hc hg hm hv ha.run hn hdb he hpl) fun _ _ _ h => cl_core h⟩
end

/-! ### own defs -/
/-- what a def gives: its value (fr: a new list), or an exception -/
inductive Fo where
  | ok (r : Val) | ex (c : Nat)
abbrev Fn := List D → Option Fo
/-- a def that changes nothing that stands -/
def spP (T : Tb) (f : Fn) : Sp := fun vs H Q E => ∃ G ds, Same G H ∧ Reps T G ds vs ∧ match f ds with
  | some (.ok r) => ∀ G' H' v, Grow G H G' H' → ResOk T G' H H' v r → Q v H'
  | some (.ex c) => ∀ H' o, Same H H' → E (.ref (T.xc c)) o H'
  | none => False
mutual
def lstFree : D → Bool
  | .tup ds => lstFrees ds
  | .ins _ _ => false
  | .lst _ => false
  | .scr _ => false
  | .dct _ _ => false
  | _ => true
def lstFrees : List D → Bool
  | [] => true
  | d :: ds => lstFree d && lstFrees ds
end
def lstFreeV : Val → Bool
  | .sh d => lstFree d
  | .fr (.lst ds) => lstFrees ds
  | _ => false
/-- an object that may be one's own -/
def Loose (o : HO) : Prop := (∃ xs, o = .lst xs) ∨ ∃ C dx fs, o = .ins C dx fs
theorem Loose.tup {vs : List V} (h : Loose (.tup vs)) : False := by
  rcases h with ⟨_, z⟩ | ⟨_, _, _, z⟩ <;> cases z
theorem Loose.frz {a : Obj} {o : HO} (h : Loose (.frz a o)) : False := by
  rcases h with ⟨_, z⟩ | ⟨_, _, _, z⟩ <;> cases z
/-- without the cells at as -/
def cut (as : List Addr) (G : Hp) : Hp := fun b => if b ∈ as then none else G b
def lay (as : List Addr) (G H : Hp) : Hp := fun b => if b ∈ as then H b else G b
section
variable {T : Tb} {B G G' H H' : Hp} {as : List Addr}
theorem sqT_cut (hl : ∀ a ∈ as, ∃ o, G a = some o ∧ Loose o) {a : Addr} {vs : List V} (h : SqT T.K G a vs) : SqT T.K (cut as G) a vs := by
  rcases h with (h | ⟨o, h⟩) | h
  · refine .inl (.inl ?_)
    unfold cut
    rw [if_neg]; · exact h
    intro q
    obtain ⟨o, e, lo⟩ := hl a q
    rw [h] at e; cases e
    exact lo.tup
  · refine .inl (.inr ⟨o, ?_⟩)
    unfold cut
    rw [if_neg]; · exact h
    intro q
    obtain ⟨o2, e, lo⟩ := hl a q
    rw [h] at e; cases e
    exact lo.frz
  · exact .inr h
mutual
theorem Rep.cut (hl : ∀ a ∈ as, ∃ o, G a = some o ∧ Loose o) : ∀ {d : D} {v : V}, lstFree d = true → Rep T G d v → Rep T (cut as G) d v
  | .non, v, _, h => by simpa [Rep] using h
  | .bl b, v, _, h => by simpa [Rep] using h
  | .int i, v, _, h => by simpa [Rep] using h
  | .str x, v, _, h => by simpa [Rep] using h
  | .tup ds, v, f, h => by
    simp only [Rep] at h ⊢
    obtain ⟨a, vs, e1, h1, h2⟩ := h
    exact ⟨a, vs, e1, sqT_cut hl h1, Reps.cut hl (by simpa [lstFree] using f) h2⟩
  | .lst ds, v, f, h => by simp [lstFree] at f
  | .ins c ds, v, f, h => by simp [lstFree] at f
  | .dct ks vs, v, f, h => by simp [lstFree] at f
  | .scr ds, v, f, h => by simp [lstFree] at f
theorem Reps.cut (hl : ∀ a ∈ as, ∃ o, G a = some o ∧ Loose o) : ∀ {ds : List D} {vs : List V}, lstFrees ds = true → Reps T G ds vs → Reps T (Ev.cut as G) ds vs
  | [], vs, _, h => by simpa [Reps] using h
  | d :: ds, vs, f, h => by
    simp only [Reps] at h ⊢
    obtain ⟨v, r, e1, h1, h2⟩ := h
    obtain ⟨f1, f2⟩ := Bool.and_eq_true_iff.mp (show (lstFree d && lstFrees ds) = true by simpa [lstFrees] using f)
    exact ⟨v, r, e1, Rep.cut hl f1 h1, Reps.cut hl f2 h2⟩
end
theorem lay_mono {as' : List Addr} (s : ∀ a ∈ as, a ∈ as') (g : Same G H) : Same (lay as G H) (lay as' G H) := fun b o e => by
  unfold lay at e ⊢
  by_cases q : b ∈ as
  · rw [if_pos q] at e; rw [if_pos (s b q)]; exact e
  · rw [if_neg q] at e
    by_cases q' : b ∈ as'
    · rw [if_pos q']; exact g b o e
    · rw [if_neg q']; exact e
theorem lay_le (g : Same G H) : Same G (lay as G H) := fun b o e => by
  unfold lay
  by_cases q : b ∈ as
  · rw [if_pos q]; exact g b o e
  · rw [if_neg q]; exact e
theorem lay_in (g : Same G H) : Same (lay as G H) H := fun b o e => by
  unfold lay at e
  by_cases q : b ∈ as
  · rw [if_pos q] at e; exact e
  · rw [if_neg q] at e; exact g b o e
/-- the lists of one's own among the arguments -/
theorem borrow {ios : Fx} {env : List Ent} {σ : L2.St} (S : Sep T B G H ios env σ) : ∀ {vs : List V} {rs : List Val} {ds : List D}, OpdsOk T G σ vs rs → peeks env rs = some ds →
    ∃ as : List Addr, (∀ a ∈ as, G a = none ∧ ∃ o, H a = some o ∧ Loose o) ∧ Reps T (lay as G H) ds vs
  | [], [], ds, _, q => by cases q; exact ⟨[], by simp, rfl⟩
  | [], _ :: _, _, h, _ => h.elim
  | _ :: _, [], _, h, _ => h.elim
  | v :: vs, r :: rs, ds, h, q => by
    unfold peeks at q
    cases k : peek env r with
    | none => simp only [k] at q; cases q
    | some d =>
      cases k2 : peeks env rs with
      | none => simp only [k, k2] at q; cases q
      | some ds2 =>
        simp only [k, k2] at q
        cases q
        obtain ⟨as, h1, h2⟩ := borrow S h.2 k2
        have easy : Rep T G d v → ∃ as : List Addr, (∀ a ∈ as, G a = none ∧ ∃ o, H a = some o ∧ Loose o) ∧ Reps T (lay as G H) (d :: ds2) (v :: vs) := fun z => ⟨as, h1, v, vs, rfl, Rep.mono (lay_le S.gh) z, h2⟩
        have hard : ∀ a, v = .ref a → Cell T B G H a d → ∃ as : List Addr, (∀ a ∈ as, G a = none ∧ ∃ o, H a = some o ∧ Loose o) ∧ Reps T (lay as G H) (d :: ds2) (v :: vs) := fun a e z => by
          subst e
          cases d with
          | lst es =>
            obtain ⟨xs, k1, k2, k3, k4⟩ := z
            refine ⟨a :: as, fun b hb => ?_, .ref a, vs, rfl, ?_, Reps.mono (lay_mono (fun b hb => List.mem_cons_of_mem _ hb) S.gh) h2⟩
            · rcases List.mem_cons.mp hb with rfl | hb
              · exact ⟨k3, _, k1, .inl ⟨_, rfl⟩⟩
              · exact h1 b hb
            · refine rep_lst (vs := xs) ?_ (Reps.mono (lay_le S.gh) k2)
              unfold lay
              rw [if_pos List.mem_cons_self]; exact k1
          | _ => exact z.elim
        cases r with
        | sh e => cases k; exact easy h.1
        | fr e => exact h.1.elim
        | vr i =>
          have hσ : σ[i]? = some (some v) := h.1
          unfold peek at k
          cases z : env[i]? with
          | none => simp only [z] at k; cases k
          | some e =>
            have c := S.ent i e z
            rw [hσ] at c
            simp only [z] at k
            cases e with
            | no => cases k
            | slf _ _ _ => cases k
            | sh e =>
              cases k
              obtain ⟨w, e1, e2⟩ := c
              cases e1
              exact easy e2
            | own e =>
              cases k
              obtain ⟨a, e1, e2⟩ := c
              cases e1
              exact hard a rfl e2
            | io e =>
              cases k
              obtain ⟨a, e1, e2, _⟩ := c
              cases e1
              exact hard a rfl e2
/-- behind a call whose result holds no list -/
theorem unborrow {G2 H2 : Hp} {v : V} {r : Val} (s : Same G H) (ha : ∀ a ∈ as, G a = none ∧ ∃ o, H a = some o ∧ Loose o) (g : Grow (lay as G H) H G2 H2) (ro : ResOk T G2 H H2 v r) (hf : lstFreeV r = true) : ∃ G3, Grow G H G3 H2 ∧ ResOk T G3 H H2 v r := by
  have hl : ∀ a ∈ as, ∃ o, G2 a = some o ∧ Loose o := fun a q => by
    obtain ⟨_, o, e, lo⟩ := ha a q
    refine ⟨o, g.g a _ ?_, lo⟩
    unfold lay
    rw [if_pos q]; exact e
  refine ⟨cut as G2, ⟨fun b o e => ?_, fun b o e => ?_, g.h, fun b hb gb => ?_⟩, ?_⟩
  · unfold cut
    rw [if_neg]
    · exact g.g b o (lay_le s b o e)
    · intro q
      rw [(ha b q).1] at e; cases e
  · unfold cut at e
    by_cases q : b ∈ as
    · rw [if_pos q] at e; cases e
    · rw [if_neg q] at e; exact g.gh b o e
  · unfold cut
    by_cases q : b ∈ as
    · rw [if_pos q]
    · rw [if_neg q]
      refine g.nw b hb ?_
      unfold lay
      rw [if_neg q]; exact gb
  · cases r with
    | sh d => exact Rep.cut hl hf ro
    | vr i => exact ro.elim
    | fr d =>
      cases d with
      | lst ds =>
        obtain ⟨a, vs, h1, h2, h3, h4, h5⟩ := ro
        refine ⟨a, vs, h1, h2, ?_, h4, Reps.cut hl hf h5⟩
        unfold cut
        by_cases q : a ∈ as
        · rw [if_pos q]
        · rw [if_neg q]; exact h3
      | _ => exact ro.elim
end
/-- a def by name -/
structure Fnd (P : Program) (w : World) (K : PySem.W.Frag) (mg : Str → Option Value) (base : Heap) (k : Nat) (x : Str) (sp : Sp) : Prop where
  ex : ∃ f fd ps, FnG P w K mg base (L2.CX P w) k f fd ps sp ∧ mg x = some (.ref f) ∧ PySem.W.keepIn K (.ref f) = true ∧ Binds K fd ps []
def caF (f : Fn) (fs : FA) : F := fun env => bA (fs env) fun rs e1 => match peeks e1 rs with
  | none => none
  | some ds => match f ds with
    | none => none
    | some (.ex c) => some (.ex c)
    | some (.ok r) => if lstFreeV r = true then some (.ok r e1) else match stores e1 rs with
      | none => none
      | some (_, e2) => some (.ok r e2)
theorem peeks_stores {T : Tb} {B H : Hp} {ios : Fx} {σ : L2.St} : ∀ {vs : List V} {rs : List Val} {ds es : List D} {G : Hp} {env e2 : List Ent}, Sep T B G H ios env σ → OpdsOk T G σ vs rs → peeks env rs = some ds → stores env rs = some (es, e2) → es = ds
  | [], [], ds, es, _, _, _, _, _, q, k => by cases q; cases k; rfl
  | [], _ :: _, _, _, _, _, _, _, h, _, _ => h.elim
  | _ :: _, [], _, _, _, _, _, _, h, _, _ => h.elim
  | v :: vs, r :: rs, ds, es, G, env, e2, S, h, q, k => by
    unfold peeks at q
    unfold stores at k
    cases k1 : peek env r with
    | none => simp only [k1] at q; cases q
    | some d =>
      cases k2 : peeks env rs with
      | none => simp only [k1, k2] at q; cases q
      | some ds2 =>
        simp only [k1, k2] at q
        cases q
        cases k3 : store env r with
        | none => simp only [k3] at k; cases k
        | some u =>
          obtain ⟨d', e1⟩ := u
          simp only [k3] at k
          cases k4 : stores e1 rs with
          | none => simp only [k4] at k; cases k
          | some u =>
            obtain ⟨es', e3⟩ := u
            simp only [k4] at k
            cases k
            have hd : d' = d ∧ peeks e1 rs = peeks env rs := by
              cases r with
              | sh e => cases k1; cases k3; exact ⟨rfl, rfl⟩
              | fr e => exact h.1.elim
              | vr i =>
                unfold peek at k1
                unfold store at k3
                cases z : env[i]? with
                | none => simp only [z] at k1; cases k1
                | some e =>
                  simp only [z] at k1 k3
                  cases e with
                  | no => cases k1
                  | io e => cases k3
                  | slf _ _ _ => cases k1
                  | sh e => cases k1; cases k3; exact ⟨rfl, rfl⟩
                  | own e =>
                    cases k1; cases k3
                    refine ⟨rfl, ?_⟩
                    have hp : ∀ r, peek (env.set i (.sh d)) r = peek env r := fun r => by
                      cases r with
                      | sh _ => rfl
                      | fr _ => rfl
                      | vr j =>
                        unfold peek
                        dsimp only
                        by_cases w : j = i
                        · subst w
                          have hi := (List.getElem?_eq_some_iff.mp z).1
                          rw [List.getElem?_set_self hi, z]
                        · rw [List.getElem?_set_ne (Ne.symm w)]
                    clear k4 k2 h
                    induction rs with
                    | nil => rfl
                    | cons r rs ih => unfold peeks; rw [hp, ih]
            obtain ⟨G1, S1, sg1, r1⟩ := S.store h.1 k3
            rw [hd.1, peeks_stores S1 (h.2.mono sg1) (hd.2.trans k2) k4]
section
variable {X : Cx} {c : Tc} {E : XK} {pos : Pos} {x : Str} {px : Pos} {e : Expr} {es : List Expr} {p : Bool} {fs : FA} {k : Nat} {f : Fn}
theorem ca_core {σ : L2.St} {H : Hp} {Q : VK} (h : rd (tb X c) E p (caF f fs) σ H Q) : tCl (spP (tb X c) f) E (rdA (tb X c) E p fs) σ H Q := by
  obtain ⟨B, G, ios, env, S, hq⟩ := h
  refine ⟨B, G, ios, env, S, PostA.bind (p2 := true) (by rw [Bool.and_true]; exact hq) fun rs e1 G1 H1 vs k S1 sg1 V1 h1 _ => ?_⟩
  cases k2 : peeks e1 rs with
  | none => rw [k2] at h1; exact h1.elim
  | some ds =>
    simp only [k2] at h1
    cases k3 : f ds with
    | none => simp only [k3] at h1; exact h1.elim
    | some u =>
      simp only [k3] at h1
      cases u with
      | ex c =>
        obtain ⟨as, ha, hr⟩ := borrow S1 V1 k2
        refine ⟨lay as G1 H1, ds, lay_in S1.gh, hr, ?_⟩
        rw [k3]
        exact fun H' o sh => h1 H' o (S1.bh.trans sh) fun _ => sh
      | ok r =>
        dsimp only at h1
        by_cases hf : lstFreeV r = true
        · rw [if_pos hf] at h1
          obtain ⟨as, ha, hr⟩ := borrow S1 V1 k2
          refine ⟨lay as G1 H1, ds, lay_in S1.gh, hr, ?_⟩
          rw [k3]
          intro G' H' v g ro
          obtain ⟨G3, g3, ro3⟩ := unborrow S1.gh ha g ro hf
          exact PostE.res h1 S1 g3 ro3
        · rw [if_neg hf] at h1
          cases k4 : stores e1 rs with
          | none => rw [k4] at h1; exact h1.elim
          | some u =>
            obtain ⟨es, e2⟩ := u
            rw [k4] at h1
            have he := peeks_stores S1 V1 k2 k4
            subst he
            obtain ⟨G2, S2, sg2, r2⟩ := S1.stores V1 k4
            refine ⟨G2, es, S2.gh, r2, ?_⟩
            rw [k3]
            intro G' H' v g ro
            exact PostE.res (h1.mono sg2) S2 g ro
theorem se_call (Fx : Fnd X.prog X.w X.K X.mg X.base k x (spP (tb X c) f)) (hr : Room k X.A) (gd : X.A.guards = some []) (hx : Passes (L2.CX X.prog X.w) X E) (ha : SA X c E p (e :: es) fs) (hg : Gl X x := by rfl) (hdb : (x == ("__debug__" : Str)) = false := by decide)
    (he : starEach (e :: es) X.env = (false, eval e X.env) :: starEach es X.env := by rfl) (hpl : (backTo pos (starEach es X.env)).any (·.1) = false := by rfl) : SE X c E p (.Call (.Name x px) (e :: es) [] pos) (caF f fs) := by
  obtain ⟨f', fd, ps, h1, h2, h3, h4⟩ := Fx.ex
  exact ⟨PE.weak (pe_callG h1 hr gd hg h2 h3 h4 hx ha.run hdb he hpl) fun _ _ _ h => ca_core h⟩
end
end Ev
namespace Ev
open PySem PySem.Spec L2

structure Cxt (X : Cx) (E : XK) (k : Nat) : Prop where
  calm : X.calm = true
  nd : X.N.Nodup
  pass : Passes (L2.CX X.prog X.w) X E
  room : Room k X.A
  gd : X.A.guards = some []

/-! ### tests -/
inductive OuT where
  | ok (b : Bool) (env : List Ent) | ex (c : Nat)
abbrev FT := List Ent → Option OuT
def PostT (T : Tb) (E : XK) (p : Bool) (B G H : Hp) (ios : Fx) (σ : L2.St) (Q : Bool → Hp → Prop) : Option OuT → Prop
  | none => False
  | some (.ok b env') => ∀ G' H', Sep T B G' H' ios env' σ → Same G G' → (p = true → Same H H') → Q b H'
  | some (.ex c) => ∀ H' o, Same B H' → (p = true → Same H H') → E (.ref (T.xc c)) o H'
def rdT (T : Tb) (E : XK) (p : Bool) (f : FT) : TT := fun σ H Q => ∃ B G ios env, Sep T B G H ios env σ ∧ PostT T E p B G H ios σ Q (f env)
structure ST (X : Cx) (c : Tc) (E : XK) (p : Bool) (e : Expr) (f : FT) : Prop where
  run : PT X e (rdT (tb X c) E p f)
structure SW (X : Cx) (c : Tc) (E : XK) (p : Bool) (e : Expr) (f : FT) : Prop where
  run : PW X e (rdT (tb X c) E p f)
theorem SW.st {X : Cx} {c : Tc} {E : XK} {p : Bool} {e : Expr} {f : FT} (h : SW X c E p e f) : ST X c E p e f := ⟨h.run.pt⟩
def bT {α : Type} (ex : Nat → α) (o : Option OuT) (k : Bool → List Ent → Option α) : Option α := match o with
  | some (.ok b e) => k b e
  | some (.ex c) => some (ex c)
  | none => none
@[simp] theorem bT_ok {α : Type} {ex : Nat → α} {b : Bool} {e : List Ent} {k : Bool → List Ent → Option α} : bT ex (some (.ok b e)) k = k b e := rfl
@[simp] theorem bT_ex {α : Type} {ex : Nat → α} {c : Nat} {k : Bool → List Ent → Option α} : bT ex (some (.ex c)) k = some (ex c) := rfl
@[simp] theorem bT_none {α : Type} {ex : Nat → α} {k : Bool → List Ent → Option α} : bT ex none k = none := rfl
def truthD : D → Option Bool
  | .non => some false
  | .bl b => some b
  | .int i => some (i != 0)
  | .tup ds => some (!ds.isEmpty)
  | .lst ds => some (!ds.isEmpty)
  | _ => none
section
variable {T : Tb} {E : XK} {p p1 p2 : Bool} {B G G1 H : Hp} {ios : Fx} {σ : L2.St} {Q : VK} {R : Bool → Hp → Prop} {o : Option Ou}
theorem Reps.isEmpty {ds : List D} {vs : List V} (h : Reps T G ds vs) : vs.isEmpty = ds.isEmpty := by
  have := Reps.length h
  cases ds <;> cases vs <;> simp_all
theorem RepT.tru {d : D} {v : V} {b : Bool} (s : Same G H) (h : RepT T G H d v) (e : truthD d = some b) : TruV T.K v H b := by
  have h := h.full s
  cases d with
  | non => cases e; simp only [Rep] at h; subst h; rfl
  | bl b => cases e; simp only [Rep] at h; subst h; rfl
  | int i => cases e; simp only [Rep] at h; subst h; rfl
  | tup ds =>
    cases e; simp only [Rep] at h
    obtain ⟨a, vs, rfl, h1, h2⟩ := h
    exact .inr (.inl ⟨vs, h1, by rw [h2.isEmpty]⟩)
  | lst ds =>
    cases e; simp only [Rep] at h
    obtain ⟨a, vs, rfl, h1, h2⟩ := h
    exact .inl ⟨vs, SqL.of h1, by rw [h2.isEmpty]⟩
  | str x => cases e
  | ins c ds => cases e
  | dct a b => cases e
  | scr a => cases e
theorem PostT.mono {o : Option OuT} (h : PostT T E p B G H ios σ R o) (s : Same G G1) : PostT T E p B G1 H ios σ R o := by
  cases o with
  | none => exact h.elim
  | some u => cases u with
    | ok r e => exact fun G' H' S sg => h G' H' S (s.trans sg)
    | ex c => exact h
/-- an expression's value, then a test's end -/
theorem PostT.ofE {k : Val → List Ent → Option OuT} {Q : VK} {oo : Option OuT} (hoo : oo = match o with
    | some (.ok r e1) => k r e1
    | some (.ex c) => some (.ex c)
    | none => none) (h : PostT T E (p1 && p2) B G H ios σ R oo)
    (hk : ∀ r e1 G1 H1 v, Sep T B G1 H1 ios e1 σ → Same G G1 → OpdOk T G1 σ v r.norm → PostT T E p2 B G1 H1 ios σ R (k r e1) → Q v H1) : PostE T E p1 B G H ios σ Q o := by
  subst hoo
  cases o with
  | none => exact h.elim
  | some u => cases u with
    | ex c => exact fun H' o sb sp => h H' o sb fun q => sp (Bool.and_eq_true_iff.mp q).1
    | ok r e1 =>
      intro G1 H1 v S sg sp V
      obtain ⟨G2, S2, sg2, V2⟩ := V.opd S
      refine hk r e1 G2 H1 v S2 (sg.trans sg2) V2 ?_
      have h : PostT T E (p1 && p2) B G H ios σ R (k r e1) := h
      cases hk2 : k r e1 with
      | none => rw [hk2] at h; exact h.elim
      | some u => rw [hk2] at h; cases u with
        | ok r2 e2 => exact fun G' H' S3 sg3 sp3 => h G' H' S3 ((sg.trans sg2).trans sg3) fun q => (sp (Bool.and_eq_true_iff.mp q).1).trans (sp3 (Bool.and_eq_true_iff.mp q).2)
        | ex c => exact fun H' o sb sp2 => h H' o sb fun q => (sp (Bool.and_eq_true_iff.mp q).1).trans (sp2 (Bool.and_eq_true_iff.mp q).2)
theorem PostT.bind {k : Bool → List Ent → Option OuT} {oo : Option OuT} {Q : Bool → Hp → Prop} (h : PostT T E (p1 && p2) B G H ios σ R (bT .ex oo k))
    (hk : ∀ b e1 G1 H1, Sep T B G1 H1 ios e1 σ → Same G G1 → PostT T E p2 B G1 H1 ios σ R (k b e1) → Q b H1) : PostT T E p1 B G H ios σ Q oo := by
  cases oo with
  | none => exact h.elim
  | some u => cases u with
    | ex c => exact fun H' o sb sp => h H' o sb fun q => sp (Bool.and_eq_true_iff.mp q).1
    | ok b e1 =>
      intro G1 H1 S sg sp
      refine hk b e1 G1 H1 S sg ?_
      have h : PostT T E (p1 && p2) B G H ios σ R (k b e1) := h
      cases hk2 : k b e1 with
      | none => rw [hk2] at h; exact h.elim
      | some u => rw [hk2] at h; cases u with
        | ok r2 e2 => exact fun G' H' S3 sg3 sp3 => h G' H' S3 (sg.trans sg3) fun q => (sp (Bool.and_eq_true_iff.mp q).1).trans (sp3 (Bool.and_eq_true_iff.mp q).2)
        | ex c => exact fun H' o sb sp2 => h H' o sb fun q => (sp (Bool.and_eq_true_iff.mp q).1).trans (sp2 (Bool.and_eq_true_iff.mp q).2)
/-- a test, then an expression's end -/
theorem PostT.bindE {k : Bool → List Ent → Option Ou} {oo : Option OuT} {R : Bool → Hp → Prop} (h : PostE T E (p1 && p2) B G H ios σ Q (bT .ex oo k))
    (hk : ∀ b e1 G1 H1, Sep T B G1 H1 ios e1 σ → Same G G1 → PostE T E p2 B G1 H1 ios σ Q (k b e1) → R b H1) : PostT T E p1 B G H ios σ R oo := by
  cases oo with
  | none => exact h.elim
  | some u => cases u with
    | ex c => exact fun H' o sb sp => h H' o sb fun q => sp (Bool.and_eq_true_iff.mp q).1
    | ok b e1 =>
      intro G1 H1 S sg sp
      refine hk b e1 G1 H1 S sg ?_
      have h : PostE T E (p1 && p2) B G H ios σ Q (k b e1) := h
      cases hk2 : k b e1 with
      | none => rw [hk2] at h; exact h.elim
      | some u => rw [hk2] at h; cases u with
        | ok r2 e2 => exact fun G' H' v S3 sg3 sp3 => h G' H' v S3 (sg.trans sg3) fun q => (sp (Bool.and_eq_true_iff.mp q).1).trans (sp3 (Bool.and_eq_true_iff.mp q).2)
        | ex c => exact fun H' o sb sp2 => h H' o sb fun q => (sp (Bool.and_eq_true_iff.mp q).1).trans (sp2 (Bool.and_eq_true_iff.mp q).2)
end
def truF (f : F) : FT := fun env => match f env with
  | some (.ok r e1) => ((peek e1 r).bind truthD).map fun b => .ok b e1
  | some (.ex c) => some (.ex c)
  | none => none
section
variable {X : Cx} {c : Tc} {E : XK} {pos : Pos} {a b e : Expr} {p q r : Bool} {f fa fb : F} {ta tb' : FT}
theorem opd_tru {T : Tb} {B G H : Hp} {ios : Fx} {σ : L2.St} {R : Bool → Hp → Prop} {env : List Ent} {v : V} {r : Val} (S : Sep T B G H ios env σ) (V : OpdOk T G σ v r.norm)
    (h : PostT T E p B G H ios σ R (((peek env r).bind truthD).map fun b => .ok b env)) : ∃ k, TruV T.K v H k ∧ R k H := by
  cases k1 : peek env r with
  | none => rw [k1] at h; exact h.elim
  | some d =>
    cases k2 : truthD d with
    | none => rw [k1] at h; simp only [Option.bind, k2] at h; exact h.elim
    | some b =>
      rw [k1] at h
      simp only [Option.bind, k2] at h
      exact ⟨b, (V.repT S (by rw [peek_norm]; exact k1)).tru S.gh k2, h G H S (Same.refl G) fun _ => Same.refl H⟩
theorem st_val (he : SE X c E p e f) (hh : ∀ whole, isTrue e X.env whole = (do let v ← whole; standAt e.pos; holding [v] (truthy v)) := by intro _; rfl) : ST X c E p e (truF f) := by
  refine ⟨PT.weak (pt_truth he.run hh) fun σ H Q h => ?_⟩
  obtain ⟨B, G, ios, env, S, h⟩ := h
  refine ⟨B, G, ios, env, S, PostT.ofE (p2 := true) (k := fun r e1 => ((peek e1 r).bind truthD).map fun b => .ok b e1) rfl (by rw [Bool.and_true]; exact h) fun r e1 G1 H1 v S1 sg1 V1 h1 => ?_⟩
  exact opd_tru S1 V1 h1
end
def oBl (op : D → D → Option Bool) : D → D → Option Val := fun x y => (op x y).map fun b => .sh (.bl b)
/-- a comparison by data -/
def rCm (T : Tb) (op : D → D → Option Bool) : R2 := fun x y H Q => ∃ G dx dy b, Same G H ∧ RepT T G H dx x ∧ RepT T G H dy y ∧ op dx dy = some b ∧ ∀ G' H', Grow G H G' H' → Q (.bl b) H'
def bEt (o : Option Ou) (k : Val → List Ent → Option OuT) : Option OuT := match o with
  | some (.ok r e) => k r e
  | some (.ex c) => some (.ex c)
  | none => none
@[simp] theorem bEt_ok {r : Val} {e : List Ent} {k : Val → List Ent → Option OuT} : bEt (some (.ok r e)) k = k r e := rfl
@[simp] theorem bEt_ex {c : Nat} {k : Val → List Ent → Option OuT} : bEt (some (.ex c)) k = some (.ex c) := rfl
@[simp] theorem bEt_none {k : Val → List Ent → Option OuT} : bEt none k = none := rfl
def cmpT (op : D → D → Option Bool) (fa fb : F) : FT := fun env => bEt (fa env) fun ra e1 => bEt (fb e1) fun rb e2 => match peek e2 ra, peek e2 rb with
  | some da, some db => (op da db).map fun b => .ok b e2
  | _, _ => none
section
variable {X : Cx} {c : Tc} {E : XK} {pos : Pos} {a b e : Expr} {p q r : Bool} {f fa fb : F} {ta tb' : FT}
theorem cmp_core {op : D → D → Option Bool} {σ : L2.St} {H : Hp} {Q : Bool → Hp → Prop} (h : rdT (tb X c) E (p && q) (cmpT op fa fb) σ H Q) : tTest (tOp (rCm (tb X c) op) (rd (tb X c) E p fa) (rd (tb X c) E q fb)) σ H Q := by
  obtain ⟨B, G, ios, env, S, h⟩ := h
  refine ⟨B, G, ios, env, S, PostT.ofE (k := fun ra e1 => bEt (fb e1) fun rb e2 => match peek e2 ra, peek e2 rb with
    | some da, some db => (op da db).map fun b => .ok b e2
    | _, _ => none) rfl h fun ra e1 G1 H1 x S1 sg1 V1 h1 => ?_⟩
  refine ⟨B, G1, ios, e1, S1, PostT.ofE (p2 := true) (k := fun rb e2 => match peek e2 ra, peek e2 rb with
    | some da, some db => (op da db).map fun b => .ok b e2
    | _, _ => none) rfl (by rw [Bool.and_true]; exact h1) fun rb e2 G2 H2 y S2 sg2 V2 h2 => ?_⟩
  cases k1 : peek e2 ra with
  | none => simp only [k1] at h2; exact h2.elim
  | some da =>
    cases k2 : peek e2 rb with
    | none => simp only [k1, k2] at h2; exact h2.elim
    | some db =>
      simp only [k1, k2] at h2
      cases k3 : op da db with
      | none => rw [k3] at h2; exact h2.elim
      | some r =>
        rw [k3] at h2
        refine ⟨G2, da, db, r, S2.gh, (V1.mono sg2).repT S2 (by rw [peek_norm]; exact k1), V2.repT S2 (by rw [peek_norm]; exact k2), k3, fun G' H' g => ?_⟩
        exact ⟨r, rfl, h2 G' H' (S2.grow g) g.g fun _ => g.h⟩
theorem st_cmp {op : CmpOp} {o : D → D → Option Bool} (ho : OpR X (compareOp op) (rCm (tb X c) o)) (ha : SE X c E p a fa) (hb : SE X c E q b fb) (hm : behindInMarks op b = false := by first | exact nomark _ | rfl) : ST X c E (p && q) (.Compare a [op] [b] pos) (cmpT o fa fb) :=
  ⟨PT.weak (pt_cmpR ho ha.run hb.run hm) fun _ _ _ h => cmp_core h⟩
theorem rOp_cm {T : Tb} {o : D → D → Option Bool} {x y : V} {H : Hp} {Q : VK} (h : rOp T (oBl o) x y H Q) : rCm T o x y H Q := by
  obtain ⟨G, dx, dy, r, s, h1, h2, h3, h4⟩ := h
  unfold oBl at h3
  cases k : o dx dy with
  | none => rw [k] at h3; cases h3
  | some b =>
    rw [k] at h3; cases h3
    exact ⟨G, dx, dy, b, s, h1, h2, k, fun G' H' g => h4 G' H' _ g (by show Rep T G' (.bl b) (.bl b); simp [Rep])⟩
theorem se_cmpB {op : CmpOp} {o : D → D → Option Bool} (ho : OpR X (compareOp op) (rCm (tb X c) o)) (ha : SE X c E p a fa) (hb : SE X c E q b fb) (hm : behindInMarks op b = false := by first | exact nomark _ | rfl) : SE X c E (p && q) (.Compare a [op] [b] pos) (binF (oBl o) fa fb) :=
  se_cmp (OpR.weak ho fun _ _ _ _ h => rOp_cm h) ha hb hm
/-- x < y < z -/
def chT (o1 o2 : D → D → Option Bool) (fa fb fc : F) : FT := fun env => bEt (fa env) fun ra e1 => bEt (fb e1) fun rb e2 => match peek e2 ra, peek e2 rb with
  | some da, some db => match o1 da db with
    | none => none
    | some false => some (.ok false e2)
    | some true => bEt (fc e2) fun rc e3 => match peek e3 rb, peek e3 rc with
      | some db, some dc => (o2 db dc).map fun b => .ok b e3
      | _, _ => none
  | _, _ => none
def chF (o1 o2 : D → D → Option Bool) (fa fb fc : F) : F := fun env => match chT o1 o2 fa fb fc env with
  | some (.ok b e) => some (.ok (.sh (.bl b)) e)
  | some (.ex c) => some (.ex c)
  | none => none
theorem ch_core {o1 o2 : D → D → Option Bool} {fc : F} {σ : L2.St} {H : Hp} {Q : Bool → Hp → Prop} {Q' : VK} (hq : ∀ b H1, Q b H1 → Q' (.bl b) H1) (h : rdT (tb X c) E (p && (q && r)) (chT o1 o2 fa fb fc) σ H Q) :
    tChain (rCm (tb X c) o1) (rCm (tb X c) o2) (rd (tb X c) E p fa) (rd (tb X c) E q fb) (rd (tb X c) E r fc) σ H Q' := by
  obtain ⟨B, G, ios, env, S, h⟩ := h
  refine ⟨B, G, ios, env, S, PostT.ofE (k := fun ra e1 => bEt (fb e1) fun rb e2 => match peek e2 ra, peek e2 rb with
    | some da, some db => match o1 da db with
      | none => none
      | some false => some (.ok false e2)
      | some true => bEt (fc e2) fun rc e3 => match peek e3 rb, peek e3 rc with
        | some db, some dc => (o2 db dc).map fun b => .ok b e3
        | _, _ => none
    | _, _ => none) rfl h fun ra e1 G1 H1 x S1 sg1 V1 h1 => ?_⟩
  refine ⟨B, G1, ios, e1, S1, PostT.ofE (k := fun rb e2 => match peek e2 ra, peek e2 rb with
    | some da, some db => match o1 da db with
      | none => none
      | some false => some (.ok false e2)
      | some true => bEt (fc e2) fun rc e3 => match peek e3 rb, peek e3 rc with
        | some db, some dc => (o2 db dc).map fun b => .ok b e3
        | _, _ => none
    | _, _ => none) rfl h1 fun rb e2 G2 H2 y S2 sg2 V2 h2 => ?_⟩
  cases k1 : peek e2 ra with
  | none => simp only [k1] at h2; exact h2.elim
  | some da =>
    cases k2 : peek e2 rb with
    | none => simp only [k1, k2] at h2; exact h2.elim
    | some db =>
      simp only [k1, k2] at h2
      cases k3 : o1 da db with
      | none => simp only [k3] at h2; exact h2.elim
      | some t =>
        simp only [k3] at h2
        refine ⟨G2, da, db, t, S2.gh, (V1.mono sg2).repT S2 (by rw [peek_norm]; exact k1), V2.repT S2 (by rw [peek_norm]; exact k2), k3, fun G' H' g => ?_⟩
        refine ⟨t, rfl, ?_⟩
        have S3 := S2.grow g
        cases t with
        | false =>
          simp only at h2
          rw [if_neg Bool.false_ne_true]
          exact hq _ _ (h2 G' H' S3 g.g fun _ => g.h)
        | true =>
          simp only at h2
          rw [if_pos rfl]
          have h3 : PostT (tb X c) E r B G' H' ios σ Q (bEt (fc e2) fun rc e3 => match peek e3 rb, peek e3 rc with
            | some db, some dc => (o2 db dc).map fun b => .ok b e3
            | _, _ => none) := by
            generalize (bEt (fc e2) fun rc e3 => match peek e3 rb, peek e3 rc with
              | some db, some dc => (o2 db dc).map fun b => OuT.ok b e3
              | _, _ => none) = z at h2 ⊢
            cases z with
            | none => exact h2.elim
            | some z => cases z with
              | ok b e => exact fun G3 H3 S3 sg3 sp3 => h2 G3 H3 S3 (g.g.trans sg3) fun q => g.h.trans (sp3 q)
              | ex c => exact fun H3 o sb sp3 => h2 H3 o sb fun q => g.h.trans (sp3 q)
          refine ⟨B, G', ios, e2, S3, PostT.ofE (p2 := true) (k := fun rc e3 => match peek e3 rb, peek e3 rc with
            | some db, some dc => (o2 db dc).map fun b => .ok b e3
            | _, _ => none) rfl (by rw [Bool.and_true]; exact h3) fun rc e3 G4 H4 z S4 sg4 V4 h4 => ?_⟩
          cases k4 : peek e3 rb with
          | none => simp only [k4] at h4; exact h4.elim
          | some db' =>
            cases k5 : peek e3 rc with
            | none => simp only [k4, k5] at h4; exact h4.elim
            | some dc =>
              simp only [k4, k5] at h4
              cases k6 : o2 db' dc with
              | none => rw [k6] at h4; exact h4.elim
              | some t2 =>
                rw [k6] at h4
                refine ⟨G4, db', dc, t2, S4.gh, ((V2.mono g.g).mono sg4).repT S4 (by rw [peek_norm]; exact k4), V4.repT S4 (by rw [peek_norm]; exact k5), k6, fun G5 H5 g5 => ?_⟩
                exact hq _ _ (h4 G5 H5 (S4.grow g5) g5.g fun _ => g5.h)
theorem st_ch {op op' : CmpOp} {o1 o2 : D → D → Option Bool} {fc : F} {d : Expr} (ho : OpR X (compareOp op) (rCm (tb X c) o1)) (ho' : OpR X (compareOp op') (rCm (tb X c) o2)) (ha : SE X c E p a fa) (hb : SE X c E q b fb) (hd : SE X c E r d fc)
    (hm : lastMarks [op, op'] [b, d] = false := by rfl) : ST X c E (p && (q && r)) (.Compare a [op, op'] [b, d] pos) (chT o1 o2 fa fb fc) :=
  ⟨PT.weak (pt_chain ho ho' ha.run hb.run hd.run hm) fun _ _ _ h => ch_core (fun b _ h => ⟨b, rfl, h⟩) h⟩
theorem se_ch {op op' : CmpOp} {o1 o2 : D → D → Option Bool} {fc : F} {d : Expr} (ho : OpR X (compareOp op) (rCm (tb X c) o1)) (ho' : OpR X (compareOp op') (rCm (tb X c) o2)) (ha : SE X c E p a fa) (hb : SE X c E q b fb) (hd : SE X c E r d fc)
    (hm : lastMarks [op, op'] [b, d] = false := by rfl) : SE X c E (p && (q && r)) (.Compare a [op, op'] [b, d] pos) (chF o1 o2 fa fb fc) := by
  refine ⟨PE.weak (pe_chain ho ho' ha.run hb.run hd.run hm) fun σ H Q h => ?_⟩
  refine ch_core (Q := fun b H1 => Q (.bl b) H1) (fun b _ h => h) ?_
  obtain ⟨B, G, ios, env, S, h⟩ := h
  refine ⟨B, G, ios, env, S, ?_⟩
  unfold chF at h
  generalize chT o1 o2 fa fb fc env = z at h ⊢
  cases z with
  | none => exact h.elim
  | some z => cases z with
    | ok b e => exact fun G' H' S' sg sp => h G' H' _ S' sg sp (by show Rep (tb X c) G' (.bl b) (.bl b); simp [Rep])
    | ex c => exact h
end

/-! ### not, and, or, if-else -/
def notT (f : FT) : FT := fun env => bT .ex (f env) fun b e => some (.ok (!b) e)
def andT (f g : FT) : FT := fun env => bT .ex (f env) fun b e => if b = true then g e else some (.ok false e)
def orT (f g : FT) : FT := fun env => bT .ex (f env) fun b e => if b = true then some (.ok true e) else g e
def ifF (t : FT) (fa fb : F) : F := fun env => bT .ex (t env) fun b e => if b = true then fa e else fb e
def notF (f : F) : F := fun env => bE (f env) fun r e => ((peek e r).bind truthD).map fun b => .ok (.sh (.bl (!b))) e
section
variable {X : Cx} {c : Tc} {E : XK} {pos : Pos} {a b e : Expr} {rest : List Expr} {p q r : Bool} {fa fb : F} {f g : FT}
theorem st_not (h : ST X c E p a f) : ST X c E p (.UnaryOp .Not a pos) (notT f) := ⟨PT.weak (pt_not h.run) fun σ H Q h => by
  obtain ⟨B, G, ios, env, S, h⟩ := h
  refine ⟨B, G, ios, env, S, PostT.bind (p2 := true) (by rw [Bool.and_true]; exact h) fun b e1 G1 H1 S1 sg1 h1 => ?_⟩
  exact h1 G1 H1 S1 (Same.refl G1) fun _ => Same.refl H1⟩
theorem sw_and1 (h : ST X c E p a f) : SW X c E p (.BoolOp .And [a] pos) f := ⟨pw_and1 h.run⟩
theorem sw_or1 (h : ST X c E p a f) : SW X c E p (.BoolOp .Or [a] pos) f := ⟨pw_or1 h.run⟩
theorem sw_and (ha : ST X c E p a f) (hb : SW X c E q (.BoolOp .And (b :: rest) pos) g) : SW X c E (p && q) (.BoolOp .And (a :: b :: rest) pos) (andT f g) := ⟨PW.weak (pw_and ha.run hb.run) fun σ H Q h => by
  obtain ⟨B, G, ios, env, S, h⟩ := h
  refine ⟨B, G, ios, env, S, PostT.bind h fun b e1 G1 H1 S1 sg1 h1 => ?_⟩
  by_cases hb : b = true
  · rw [if_pos hb] at h1 ⊢
    exact ⟨B, G1, ios, e1, S1, h1⟩
  · rw [if_neg hb] at h1 ⊢
    exact h1 G1 H1 S1 (Same.refl G1) fun _ => Same.refl H1⟩
theorem sw_or (ha : ST X c E p a f) (hb : SW X c E q (.BoolOp .Or (b :: rest) pos) g) : SW X c E (p && q) (.BoolOp .Or (a :: b :: rest) pos) (orT f g) := ⟨PW.weak (pw_or ha.run hb.run) fun σ H Q h => by
  obtain ⟨B, G, ios, env, S, h⟩ := h
  refine ⟨B, G, ios, env, S, PostT.bind h fun b e1 G1 H1 S1 sg1 h1 => ?_⟩
  by_cases hb : b = true
  · rw [if_pos hb] at h1 ⊢
    exact h1 G1 H1 S1 (Same.refl G1) fun _ => Same.refl H1
  · rw [if_neg hb] at h1 ⊢
    exact ⟨B, G1, ios, e1, S1, h1⟩⟩
theorem se_ifx (ht : ST X c E p e f) (ha : SE X c E q a fa) (hb : SE X c E r b fb) : SE X c E (p && (q && r)) (.IfExp e a b pos) (ifF f fa fb) := ⟨PE.weak (pe_ifExp ht.run ha.run hb.run) fun σ H Q h => by
  obtain ⟨B, G, ios, env, S, h⟩ := h
  refine ⟨B, G, ios, env, S, PostT.bindE h fun b e1 G1 H1 S1 sg1 h1 => ?_⟩
  by_cases hb : b = true
  · rw [if_pos hb] at h1 ⊢
    refine ⟨B, G1, ios, e1, S1, ?_⟩
    generalize fa e1 = z at h1 ⊢
    cases z with
    | none => exact h1.elim
    | some z => cases z with
      | ok r e => exact fun G' H' v S' sg sp => h1 G' H' v S' sg fun z => sp (Bool.and_eq_true_iff.mp z).1
      | ex c => exact fun H' o sb sp => h1 H' o sb fun z => sp (Bool.and_eq_true_iff.mp z).1
  · rw [if_neg hb] at h1 ⊢
    refine ⟨B, G1, ios, e1, S1, ?_⟩
    generalize fb e1 = z at h1 ⊢
    cases z with
    | none => exact h1.elim
    | some z => cases z with
      | ok r e => exact fun G' H' v S' sg sp => h1 G' H' v S' sg fun z => sp (Bool.and_eq_true_iff.mp z).2
      | ex c => exact fun H' o sb sp => h1 H' o sb fun z => sp (Bool.and_eq_true_iff.mp z).2⟩
theorem se_not (h : SE X c E p a fa) : SE X c E p (.UnaryOp .Not a pos) (notF fa) := ⟨PE.weak (pe_notT h.run) fun σ H Q h => by
  obtain ⟨B, G, ios, env, S, h⟩ := h
  refine ⟨B, G, ios, env, S, PostE.bindO (p2 := true) (by rw [Bool.and_true]; exact h) fun r e1 G1 H1 v S1 sg1 V1 h1 _ => ?_⟩
  cases k1 : peek e1 r with
  | none => rw [k1] at h1; exact h1.elim
  | some d =>
    cases k2 : truthD d with
    | none => rw [k1] at h1; simp only [Option.bind, k2] at h1; exact h1.elim
    | some b =>
      rw [k1] at h1
      simp only [Option.bind, k2] at h1
      exact ⟨b, (V1.repT S1 (by rw [peek_norm]; exact k1)).tru S1.gh k2, PostE.give h1 S1 (by simp [Rep])⟩⟩
/-- x and y by truth (x no list of one's own) -/
def andF (fa fb : F) : F := fun env => bE (fa env) fun r e => match r with
  | .vr _ => none
  | _ => match (peek e r).bind truthD with
    | some true => fb e
    | some false => some (.ok r.norm e)
    | none => none
def orF (fa fb : F) : F := fun env => bE (fa env) fun r e => match r with
  | .vr _ => none
  | _ => match (peek e r).bind truthD with
    | some true => some (.ok r.norm e)
    | some false => fb e
    | none => none
theorem se_and (ha : SE X c E p a fa) (hb : SE X c E q (.BoolOp .And (b :: rest) pos) fb) : SE X c E (p && q) (.BoolOp .And (a :: b :: rest) pos) (andF fa fb) := ⟨PE.weak (pe_andT ha.run hb.run) fun σ H Q h => by
  obtain ⟨B, G, ios, env, S, h⟩ := h
  refine ⟨B, G, ios, env, S, PostE.bindO h fun r e1 G1 H1 v S1 sg1 V1 h1 _ => ?_⟩
  have key : ∀ d, V1 = V1 → Rep (tb X c) G1 d v → r.norm = .sh d → PostE (tb X c) E q B G1 H1 ios σ Q (match (some d).bind truthD with
    | some true => fb e1
    | some false => some (.ok (.sh d) e1)
    | none => none) → ∃ k, TruV X.K v H1 k ∧ if k = true then rd (tb X c) E q fb σ H1 Q else Q v H1 := fun d _ hr _ h2 => by
    cases k2 : truthD d with
    | none => simp only [Option.bind, k2] at h2; exact h2.elim
    | some k =>
      refine ⟨k, RepT.tru (T := tb X c) S1.gh (.inl hr) k2, ?_⟩
      simp only [Option.bind, k2] at h2
      cases k with
      | true => rw [if_pos rfl]; exact ⟨B, G1, ios, e1, S1, h2⟩
      | false => rw [if_neg Bool.false_ne_true]; exact PostE.give h2 S1 hr
  cases r with
  | vr i => exact h1.elim
  | sh d => exact key d rfl V1 rfl h1
  | fr d => exact key d rfl V1 rfl h1⟩
theorem se_or (ha : SE X c E p a fa) (hb : SE X c E q (.BoolOp .Or (b :: rest) pos) fb) : SE X c E (p && q) (.BoolOp .Or (a :: b :: rest) pos) (orF fa fb) := ⟨PE.weak (pe_orT ha.run hb.run) fun σ H Q h => by
  obtain ⟨B, G, ios, env, S, h⟩ := h
  refine ⟨B, G, ios, env, S, PostE.bindO h fun r e1 G1 H1 v S1 sg1 V1 h1 _ => ?_⟩
  have key : ∀ d, V1 = V1 → Rep (tb X c) G1 d v → r.norm = .sh d → PostE (tb X c) E q B G1 H1 ios σ Q (match (some d).bind truthD with
    | some true => some (.ok (.sh d) e1)
    | some false => fb e1
    | none => none) → ∃ k, TruV X.K v H1 k ∧ if k = true then Q v H1 else rd (tb X c) E q fb σ H1 Q := fun d _ hr _ h2 => by
    cases k2 : truthD d with
    | none => simp only [Option.bind, k2] at h2; exact h2.elim
    | some k =>
      refine ⟨k, RepT.tru (T := tb X c) S1.gh (.inl hr) k2, ?_⟩
      simp only [Option.bind, k2] at h2
      cases k with
      | false => rw [if_neg Bool.false_ne_true]; exact ⟨B, G1, ios, e1, S1, h2⟩
      | true => rw [if_pos rfl]; exact PostE.give h2 S1 hr
  cases r with
  | vr i => exact h1.elim
  | sh d => exact key d rfl V1 rfl h1
  | fr d => exact key d rfl V1 rfl h1⟩
theorem se_one {op} (h : SE X c E p a fa) : SE X c E p (.BoolOp op [a] pos) fa := ⟨pe_one h.run⟩
end
end Ev
namespace Ev
open PySem PySem.Spec L2

/-! ### statements -/
section
variable (T : Tb) (E : XK)
def PostS (B G : Hp) (ios : Fx) (Dn : Ends) : Option So → Prop
  | none => False
  | some (.nx e) => ∀ G' H' σ', Sep T B G' H' ios e σ' → Same G G' → Dn.nx σ' H'
  | some (.bk e) => ∀ G' H' σ', Sep T B G' H' ios e σ' → Same G G' → Dn.bk σ' H'
  | some (.ct e) => ∀ G' H' σ', Sep T B G' H' ios e σ' → Same G G' → Dn.ct σ' H'
  | some (.rt r e) => ∀ G' H' σ' v, Sep T B G' H' ios e σ' → Same G G' → ValOk T B G' H' e σ' v r → Dn.rt v H'
  | some (.ex c) => ∀ H' o, Same B H' → E (.ref (T.xc c)) o H'
def rdS (f : FS) : TS := fun Dn σ H => ∃ B G ios env, Sep T B G H ios env σ ∧ PostS T E B G ios Dn (f env)
end
structure SS (X : Cx) (c : Tc) (E : XK) (st : Stmt) (f : FS) : Prop where
  run : PS X st (rdS (tb X c) E f)
structure SSs (X : Cx) (c : Tc) (E : XK) (sts : List Stmt) (f : FS) : Prop where
  run : PSs X sts (rdS (tb X c) E f)
def bS (o : Option So) (k : List Ent → Option So) : Option So := match o with
  | some (.nx e) => k e
  | o => o
@[simp] theorem bS_nx {e : List Ent} {k : List Ent → Option So} : bS (some (.nx e)) k = k e := rfl
@[simp] theorem bS_rt {r : Val} {e : List Ent} {k : List Ent → Option So} : bS (some (.rt r e)) k = some (.rt r e) := rfl
@[simp] theorem bS_ex {c : Nat} {k : List Ent → Option So} : bS (some (.ex c)) k = some (.ex c) := rfl
@[simp] theorem bS_bk {e : List Ent} {k : List Ent → Option So} : bS (some (.bk e)) k = some (.bk e) := rfl
@[simp] theorem bS_ct {e : List Ent} {k : List Ent → Option So} : bS (some (.ct e)) k = some (.ct e) := rfl
@[simp] theorem bS_none {k : List Ent → Option So} : bS none k = none := rfl
/-- from an expression's value on -/
def bES (o : Option Ou) (k : Val → List Ent → Option So) : Option So := match o with
  | some (.ok r e) => k r e
  | some (.ex c) => some (.ex c)
  | none => none
@[simp] theorem bES_ok {r : Val} {e : List Ent} {k : Val → List Ent → Option So} : bES (some (.ok r e)) k = k r e := rfl
@[simp] theorem bES_ex {c : Nat} {k : Val → List Ent → Option So} : bES (some (.ex c)) k = some (.ex c) := rfl
@[simp] theorem bES_none {k : Val → List Ent → Option So} : bES none k = none := rfl
section
variable {T : Tb} {E : XK} {p : Bool} {B G G1 H : Hp} {ios : Fx} {σ : L2.St} {Dn : Ends}
theorem PostS.mono {o : Option So} (h : PostS T E B G ios Dn o) (s : Same G G1) : PostS T E B G1 ios Dn o := by
  cases o with
  | none => exact h.elim
  | some u => cases u with
    | nx e => exact fun G' H' σ' S sg => h G' H' σ' S (s.trans sg)
    | bk e => exact fun G' H' σ' S sg => h G' H' σ' S (s.trans sg)
    | ct e => exact fun G' H' σ' S sg => h G' H' σ' S (s.trans sg)
    | rt r e => exact fun G' H' σ' v S sg => h G' H' σ' v S (s.trans sg)
    | ex c => exact h
theorem PostS.ofE {o : Option Ou} {Q : VK} {k : Val → List Ent → Option So} (h : PostS T E B G ios Dn (bES o k))
    (hk : ∀ r e1 G1 H1 v, Sep T B G1 H1 ios e1 σ → Same G G1 → ValOk T B G1 H1 e1 σ v r → PostS T E B G1 ios Dn (k r e1) → Q v H1) : PostE T E p B G H ios σ Q o := by
  cases o with
  | none => exact h.elim
  | some u => cases u with
    | ex c => exact fun H' o sb _ => h H' o sb
    | ok r e1 => exact fun G1 H1 v S sg _ V => hk r e1 G1 H1 v S sg V (PostS.mono h sg)
theorem PostS.ofO {o : Option Ou} {Q : VK} {k : Val → List Ent → Option So} (h : PostS T E B G ios Dn (bES o k))
    (hk : ∀ r e1 G1 H1 v, Sep T B G1 H1 ios e1 σ → Same G G1 → OpdOk T G1 σ v r.norm → PostS T E B G1 ios Dn (k r e1) → Q v H1) : PostE T E p B G H ios σ Q o :=
  h.ofE fun r e1 G1 H1 v S sg V h1 => by
    obtain ⟨G2, S2, sg2, V2⟩ := V.opd S
    exact hk r e1 G2 H1 v S2 (sg.trans sg2) V2 (h1.mono sg2)
theorem PostS.ofT {o : Option OuT} {R : Bool → Hp → Prop} {k : Bool → List Ent → Option So} (h : PostS T E B G ios Dn (bT .ex o k))
    (hk : ∀ b e1 G1 H1, Sep T B G1 H1 ios e1 σ → Same G G1 → PostS T E B G1 ios Dn (k b e1) → R b H1) : PostT T E p B G H ios σ R o := by
  cases o with
  | none => exact h.elim
  | some u => cases u with
    | ex c => exact fun H' o sb _ => h H' o sb
    | ok b e1 => exact fun G1 H1 S sg _ => hk b e1 G1 H1 S sg (PostS.mono h sg)
end

section
variable {X : Cx} {c : Tc} {E : XK} {pos : Pos} {st : Stmt} {sts aa bb : List Stmt} {e : Expr} {p : Bool} {f : F} {g h : FS} {t : FT}
def nxF : FS := fun env => some (.nx env)
theorem sss_nil : SSs X c E [] nxF := ⟨PSs.weak pss_nil fun Dn σ H h => by
  obtain ⟨B, G, ios, env, S, h⟩ := h
  exact h G H σ S (Same.refl G)⟩
def seqF (g h : FS) : FS := fun env => bS (g env) h
theorem sss_cons (h1 : SS X c E st g) (h2 : SSs X c E sts h) : SSs X c E (st :: sts) (seqF g h) := ⟨PSs.weak (pss_cons h1.run h2.run) fun Dn σ H q => by
  obtain ⟨B, G, ios, env, S, q⟩ := q
  refine ⟨B, G, ios, env, S, ?_⟩
  unfold seqF at q
  generalize g env = o at q ⊢
  cases o with
  | none => exact q.elim
  | some u => cases u with
    | nx e => exact fun G' H' σ' S' sg => ⟨B, G', ios, e, S', PostS.mono q sg⟩
    | bk e => exact q
    | ct e => exact q
    | rt r e => exact q
    | ex c => exact q⟩
theorem sss_one (h1 : SS X c E st g) : SSs X c E [st] g := ⟨pss_one h1.run⟩
def exprF (f : F) : FS := fun env => bES (f env) fun _ e => some (.nx e)
theorem ss_expr (he : SE X c E p e f) (hs : swapsWith e none pos.line X.env = pure false := by rfl) : SS X c E (.Expr e pos) (exprF f) := ⟨PS.weak (ps_expr he.run hs) fun Dn σ H q => by
  obtain ⟨B, G, ios, env, S, q⟩ := q
  exact ⟨B, G, ios, env, S, PostS.ofE q fun r e1 G1 H1 v S1 sg1 V h1 => h1 G1 H1 σ S1 (Same.refl G1)⟩⟩
def retF (f : F) : FS := fun env => bES (f env) fun r e => some (.rt r e)
theorem ss_ret (he : SE X c E p e f) : SS X c E (.Return (some e) pos) (retF f) := ⟨PS.weak (ps_ret he.run) fun Dn σ H q => by
  obtain ⟨B, G, ios, env, S, q⟩ := q
  exact ⟨B, G, ios, env, S, PostS.ofE q fun r e1 G1 H1 v S1 sg1 V h1 => h1 G1 H1 σ v S1 (Same.refl G1) V⟩⟩
def ifS (t : FT) (g h : FS) : FS := fun env => bT .ex (t env) fun b e => if b = true then g e else h e
theorem ss_if (ht : ST X c E p e t) (ha : SSs X c E aa g) (hb : SSs X c E bb h) : SS X c E (.If e aa bb pos) (ifS t g h) := ⟨PS.weak (ps_if ht.run ha.run hb.run) fun Dn σ H q => by
  obtain ⟨B, G, ios, env, S, q⟩ := q
  refine ⟨B, G, ios, env, S, PostS.ofT q fun b e1 G1 H1 S1 sg1 h1 => ?_⟩
  by_cases hb : b = true
  · rw [if_pos hb] at h1 ⊢
    exact ⟨B, G1, ios, e1, S1, h1⟩
  · rw [if_neg hb] at h1 ⊢
    exact ⟨B, G1, ios, e1, S1, h1⟩⟩
theorem ss_pass : SS X c E (.Pass pos) nxF := ⟨PS.weak ps_pass fun Dn σ H h => by
  obtain ⟨B, G, ios, env, S, h⟩ := h
  exact h G H σ S (Same.refl G)⟩
theorem ss_break : SS X c E (.Break pos) (fun env => some (.bk env)) := ⟨PS.weak ps_break fun Dn σ H h => by
  obtain ⟨B, G, ios, env, S, h⟩ := h
  exact h G H σ S (Same.refl G)⟩
theorem ss_continue : SS X c E (.Continue pos) (fun env => some (.ct env)) := ⟨PS.weak ps_continue fun Dn σ H h => by
  obtain ⟨B, G, ios, env, S, h⟩ := h
  exact h G H σ S (Same.refl G)⟩
end

/-! ### a name is stored -/
/-- may the name i be given a new value -/
def free (env : List Ent) (i : Nat) : Bool := match env[i]? with
  | some .no => true
  | some (.sh _) => true
  | some (.own _) => true
  | _ => false
def put (env : List Ent) (i : Nat) : Val → Option (List Ent)
  | .sh d => if free env i = true then some (env.set i (.sh d)) else none
  | .fr d => if free env i = true then some (env.set i (.own d)) else none
  | .vr j => match store env (.vr j) with
    | some (d, e1) => if free e1 i = true then some (e1.set i (.sh d)) else none
    | none => none
section
variable {T : Tb} {B G G' H H' : Hp} {ios : Fx} {env env' : List Ent} {σ : L2.St}
theorem free_lt {i : Nat} (h : free env i = true) : i < env.length := by
  unfold free at h
  cases q : env[i]? with
  | none => rw [q] at h; cases h
  | some e => exact (List.getElem?_eq_some_iff.mp q).1
theorem OwnAt.put {i j : Nat} {a : Addr} {e : Ent} {x : Option V} (h : OwnAt (env.set i e) (σ.set i x) j a) (n : j ≠ i) : OwnAt env σ j a := by
  obtain ⟨⟨e', h1, h2⟩, h3⟩ := h
  rw [List.getElem?_set_ne (Ne.symm n)] at h1 h3
  exact ⟨⟨e', h1, h2⟩, h3⟩
theorem Sep.put (S : Sep T B G H ios env σ) {i : Nat} (hf : free env i = true) {v : V} {e : Ent} (he : EntOk T B G H ios i (some (some v)) e) (ha : e.mine = true → ∀ a, v = .ref a → ∀ j, ¬ OwnAt env σ j a) : Sep T B G H ios (env.set i e) (σ.set i (some v)) := by
  have hi := free_lt hf
  have hi' : i < σ.length := by rw [← S.len]; exact hi
  refine ⟨by rw [List.length_set, List.length_set]; exact S.len, S.gh, S.bh, fun j e' q => ?_, fun j l a n o1 o2 => ?_, S.hd⟩
  · by_cases w : j = i
    · subst w
      rw [List.getElem?_set_self hi] at q; cases q
      rw [List.getElem?_set_self hi']; exact he
    · rw [List.getElem?_set_ne (Ne.symm w)] at q
      rw [List.getElem?_set_ne (Ne.symm w)]
      exact S.ent j e' q
  · by_cases w : j = i
    · subst w
      obtain ⟨⟨e', h1, h2⟩, h3⟩ := o1
      rw [List.getElem?_set_self hi] at h1; cases h1
      rw [List.getElem?_set_self hi'] at h3; cases h3
      exact ha h2 a rfl l (o2.put (Ne.symm n))
    · by_cases w2 : l = i
      · subst w2
        obtain ⟨⟨e', h1, h2⟩, h3⟩ := o2
        rw [List.getElem?_set_self hi] at h1; cases h1
        rw [List.getElem?_set_self hi'] at h3; cases h3
        exact ha h2 a rfl j (o1.put w)
      · exact S.apart j l a n (o1.put w) (o2.put w2)
theorem Sep.putV (S : Sep T B G H ios env σ) {i : Nat} {v : V} {r : Val} (V1 : ValOk T B G H env σ v r) (q : Ev.put env i r = some env') : ∃ G1, Sep T B G1 H ios env' (σ.set i (some v)) ∧ Same G G1 := by
  cases r with
  | sh d =>
    unfold Ev.put at q
    dsimp only at q
    by_cases hf : free env i = true
    · rw [if_pos hf] at q; cases q
      exact ⟨G, S.put hf ⟨v, rfl, V1⟩ (by intro h; cases h), Same.refl G⟩
    · rw [if_neg hf] at q; cases q
  | fr d =>
    unfold Ev.put at q
    dsimp only at q
    by_cases hf : free env i = true
    · rw [if_pos hf] at q; cases q
      obtain ⟨a, h1, h2, h3⟩ := V1
      exact ⟨G, S.put hf ⟨a, by rw [h1], h2⟩ (fun _ b hb j => by rw [h1] at hb; cases hb; exact h3 j), Same.refl G⟩
    · rw [if_neg hf] at q; cases q
  | vr j =>
    unfold Ev.put at q
    dsimp only at q
    cases k : Ev.store env (.vr j) with
    | none => simp only [k] at q; cases q
    | some u =>
      obtain ⟨d, e1⟩ := u
      simp only [k] at q
      by_cases hf : free e1 i = true
      · rw [if_pos hf] at q; cases q
        obtain ⟨G1, S1, sg, r1⟩ := S.store (r := .vr j) V1.1 k
        exact ⟨G1, S1.put hf ⟨v, rfl, r1⟩ (by intro h; cases h), sg⟩
      · rw [if_neg hf] at q; cases q
end
def setF (i : Nat) (f : F) : FS := fun env => bES (f env) fun r e => (put e i r).map .nx
section
variable {X : Cx} {c : Tc} {E : XK} {pos : Pos} {st : Stmt} {e : Expr} {p : Bool} {f : F}
theorem ss_set_of {te : TE} {i : Nat} (h : PS X st (tAsg te (gName i))) (w : ∀ σ H Q, rd (tb X c) E p f σ H Q → te σ H Q) : SS X c E st (setF i f) := ⟨PS.weak h fun Dn σ H q => by
  obtain ⟨B, G, ios, env, S, q⟩ := q
  refine w σ H _ ⟨B, G, ios, env, S, PostS.ofE q fun r e1 G1 H1 v S1 sg1 V h1 => ?_⟩
  cases k : put e1 i r with
  | none => rw [k] at h1; exact h1.elim
  | some e2 =>
    rw [k] at h1
    obtain ⟨G2, S2, sg2⟩ := S1.putV V k
    exact h1 G2 H1 _ S2 sg2⟩
theorem ss_set {i : Nat} {x : Str} {pos' : Pos} (nd : X.N.Nodup) (he : SE X c E p e f) (hi : X.N[i]? = some x := by rfl) (hx : Loc X.env.scope x := by first | exact Or.inl rfl | exact Or.inr rfl) (hs : swapsWith e (some (.Name x pos')) pos.line X.env = pure false := by rfl) (hf : X.fn x = true ∨ X.env.scope.names.lookup x = some .local := by first | exact .inl rfl | exact .inr rfl | assumption) :
    SS X c E (.Assign [.Name x pos'] e pos) (setF i f) := ss_set_of (ps_set nd hi hx he.run hs hf) fun _ _ _ h => h
end

/-! ### targets -/
abbrev FG := D → List Ent → Option (List Ent)
def Agree (vs : List Nat) (σ σ' : L2.St) : Prop := σ'.length = σ.length ∧ ∀ i, i ∉ vs → σ'[i]? = σ[i]?
theorem Agree.trans {vs ws : List Nat} {σ σ1 σ2 : L2.St} (a : Agree vs σ σ1) (b : Agree ws σ1 σ2) : Agree (vs ++ ws) σ σ2 :=
  ⟨b.1.trans a.1, fun i h => (b.2 i fun z => h (List.mem_append_right _ z)).trans (a.2 i fun z => h (List.mem_append_left _ z))⟩
def rdG (T : Tb) (vs : List Nat) (f : FG) : TG := fun v σ H Q => ∃ B G ios env d, Sep T B G H ios env σ ∧ Rep T G d v ∧ match f d env with
  | none => False
  | some env' => ∀ G' σ', Sep T B G' H ios env' σ' → Same G G' → Agree vs σ σ' → Q σ' H
structure SG (X : Cx) (c : Tc) (vs : List Nat) (e : Expr) (f : FG) : Prop where
  run : PG X e (rdG (tb X c) vs f)
abbrev FGs := List D → List Ent → Option (List Ent)
def rdGs (T : Tb) (ns : List Nat) (f : FGs) : TGs := fun vs σ H Q => ∃ B G ios env ds, Sep T B G H ios env σ ∧ Reps T G ds vs ∧ match f ds env with
  | none => False
  | some env' => ∀ G' σ', Sep T B G' H ios env' σ' → Same G G' → Agree ns σ σ' → Q σ' H
structure SGs (X : Cx) (c : Tc) (ns : List Nat) (es : List Expr) (f : FGs) : Prop where
  run : PGs X es (rdGs (tb X c) ns f)
  len : ∀ ds env env', f ds env = some env' → ds.length = es.length
theorem PG.weak {X : Cx} {e : Expr} {t t' : TG} (h : PG X e t) (w : ∀ v σ H Q, t' v σ H Q → t v σ H Q) : PG X e t' := ⟨fun pins s σ H v u Q I r q => h.run pins s σ H v u Q I r (w v σ H Q q)⟩
theorem PGs.weak {X : Cx} {e : List Expr} {t t' : TGs} (h : PGs X e t) (w : ∀ v σ H Q, t' v σ H Q → t v σ H Q) : PGs X e t' := ⟨fun pins s σ H v u Q I r q => h.run pins s σ H v u Q I r (w v σ H Q q)⟩
def gnF (i : Nat) : FG := fun d env => put env i (.sh d)
def gnilF : FGs := fun ds env => match ds with
  | [] => some env
  | _ => none
def gconsF (f : FG) (fs : FGs) : FGs := fun ds env => match ds with
  | [] => none
  | d :: ds => (f d env).bind (fs ds)
def gtF (fs : FGs) : FG := fun d env => match d with
  | .tup ds => fs ds env
  | _ => none
section
variable {X : Cx} {c : Tc} {E : XK} {pos : Pos} {e : Expr} {es : List Expr} {f : FG} {fs : FGs}
theorem sg_name {i : Nat} {x : Str} (nd : X.N.Nodup) (hi : X.N[i]? = some x := by rfl) (hx : Loc X.env.scope x := by first | exact Or.inl rfl | exact Or.inr rfl) (hf : X.fn x = true ∨ X.env.scope.names.lookup x = some .local := by first | exact .inl rfl | exact .inr rfl | assumption) : SG X c [i] (.Name x pos) (gnF i) :=
  ⟨PG.weak (pg_name nd hi hx hf) fun v σ H Q h => by
    obtain ⟨B, G, ios, env, d, S, r, h⟩ := h
    unfold gnF at h
    cases k : put env i (.sh d) with
    | none => rw [k] at h; exact h.elim
    | some e1 =>
      rw [k] at h
      obtain ⟨G1, S1, sg⟩ := S.putV (v := v) (r := .sh d) r k
      exact h G1 _ S1 sg ⟨by rw [List.length_set], fun j hj => List.getElem?_set_ne (by simpa using fun e : i = j => hj (by simp [e]))⟩⟩
theorem sgs_nil : SGs X c [] [] gnilF := ⟨PGs.weak pgs_nil fun vs σ H Q h => by
  obtain ⟨B, G, ios, env, ds, S, r, h⟩ := h
  cases ds with
  | nil =>
    have : vs = [] := by simpa [Reps] using r
    exact ⟨this, h G σ S (Same.refl G) ⟨rfl, fun _ _ => rfl⟩⟩
  | cons d ds => exact h.elim, fun ds env env' h => by cases ds with
  | nil => rfl
  | cons d ds => cases h⟩
theorem sgs_cons {ns ms : List Nat} (h1 : SG X c ns e f) (h2 : SGs X c ms es fs) (hs : (assignEach (e :: es) X.env).map (·.2) = assign e X.env :: (assignEach es X.env).map (·.2) := by rfl) : SGs X c (ns ++ ms) (e :: es) (gconsF f fs) := by
  refine ⟨PGs.weak (pgs_cons h1.run h2.run hs) fun vs σ H Q h => ?_, fun ds env env' h => ?_⟩
  · obtain ⟨B, G, ios, env, ds, S, r, h⟩ := h
    cases ds with
    | nil => exact h.elim
    | cons d ds =>
      simp only [Reps] at r
      obtain ⟨v, vr, e1, r1, r2⟩ := r
      refine ⟨v, vr, e1, B, G, ios, env, d, S, r1, ?_⟩
      unfold gconsF at h
      dsimp only at h
      cases k : f d env with
      | none => rw [k] at h; exact h.elim
      | some e1 =>
        rw [k] at h
        dsimp only
        intro G1 σ1 S1 sg1 ag1
        refine ⟨B, G1, ios, e1, ds, S1, Reps.mono sg1 r2, ?_⟩
        simp only [Option.bind] at h
        cases k2 : fs ds e1 with
        | none => rw [k2] at h; exact h.elim
        | some e2 =>
          rw [k2] at h
          exact fun G2 σ2 S2 sg2 ag2 => h G2 σ2 S2 (sg1.trans sg2) (ag1.trans ag2)
  · cases ds with
    | nil => cases h
    | cons d ds =>
      unfold gconsF at h
      dsimp only at h
      cases k : f d env with
      | none => rw [k] at h; cases h
      | some e1 =>
        rw [k] at h
        show ds.length + 1 = es.length + 1
        rw [h2.len ds e1 env' h]
theorem sg_tup {k : Nat} {ns : List Nat} (hc : X.calm = true) (h : SGs X c ns es fs) (hn : (assignEach es X.env).length = es.length := by rfl) (hst : (assignEach es X.env).findIdx? (·.1) = none := by rfl) : SG X c ns (.Tuple es k pos) (gtF fs) :=
  ⟨PG.weak (pg_tup hc h.run hn hst) fun v σ H Q q => by
    obtain ⟨B, G, ios, env, d, S, r, q⟩ := q
    cases d with
    | tup ds =>
      simp only [Rep] at r
      obtain ⟨a, vs, e1, h1, h2⟩ := r
      refine ⟨a, vs, e1, Same.sqT (T := tb X c) S.gh h1, ?_, B, G, ios, env, ds, S, h2, q⟩
      unfold gtF at q
      dsimp only at q
      cases k : fs ds env with
      | none => rw [k] at q; exact q.elim
      | some e1 => rw [Reps.length h2]; exact h.len _ _ _ k
    | _ => exact q.elim⟩
/-- target = e -/
def asgF (f : F) (g : FG) : FS := fun env => bES (f env) fun r e => match peek e r with
  | none => none
  | some d => match r with
    | .vr _ => none
    | _ => (g d e).map .nx
theorem ss_asg {p : Bool} {ns : List Nat} {f : F} {tg e : Expr} {g : FG} (he : SE X c E p e f) (hg : SG X c ns tg g) (hs : swapsWithSole [tg] e pos.line X.env = pure false := by rfl) (hw : swappedStores [tg] e X.env = pure none := by rfl) (h1 : (assignEach [tg] X.env).map (·.2) = [assign tg X.env] := by rfl) : SS X c E (.Assign [tg] e pos) (asgF f g) :=
  ⟨PS.weak (ps_asg he.run hg.run hs hw h1) fun Dn σ H q => by
    obtain ⟨B, G, ios, env, S, q⟩ := q
    refine ⟨B, G, ios, env, S, PostS.ofO q fun r e1 G1 H1 v S1 sg1 V h1 => ?_⟩
    have key : ∀ d, Rep (tb X c) G1 d v → PostS (tb X c) E B G1 ios Dn ((g d e1).map .nx) → rdG (tb X c) ns g v σ H1 Dn.nx := fun d r h2 => by
      refine ⟨B, G1, ios, e1, d, S1, r, ?_⟩
      cases k : g d e1 with
      | none => rw [k] at h2; exact h2.elim
      | some e2 => rw [k] at h2; exact fun G2 σ2 S2 sg2 _ => h2 G2 H1 σ2 S2 sg2
    cases r with
    | sh d => exact key d V h1
    | fr d => exact key d V h1
    | vr i =>
      cases k : peek e1 (.vr i) with
      | none => simp only [k] at h1; exact h1.elim
      | some d => simp only [k] at h1; exact h1.elim⟩
end

/-! ### two names at once -/
/-- neither a list of a name's own -/
def par2 (i j : Nat) (env : List Ent) (ra rb : Val) : Option So := match ra, rb with
  | .vr _, _ => none
  | _, .vr _ => none
  | ra, rb => (put env i ra).bind fun e3 => (put e3 j rb).map .nx
def parF (i j : Nat) (fa fb : F) : FS := fun env => bES (fa env) fun ra e1 => bES (fb e1) fun rb e2 => par2 i j e2 ra rb
end Ev
namespace Ev
open PySem PySem.Spec L2

/-! ### what is walked -/
structure ItOk (T : Tb) (J : It) (F G0 : Hp) (ds : List D) : Prop where
  go : ∀ i H, i < ds.length → Same F H → J.go i H
  stop : ∀ H, Same F H → J.stop ds.length H
  yld : ∀ i H x H' d, Same F H → J.yld i H x H' → ds[i]? = some d → Same H H' ∧ ∃ G1, Same G0 G1 ∧ (∀ b, G1 b ≠ none → G0 b ≠ none ∨ H b = none) ∧ Same G1 H' ∧ Rep T G1 d x
inductive OuI where
  | ok (ops : List Nat) (ds : List D) (env : List Ent) | ex (c : Nat)
abbrev FI := List Ent → Option OuI
def PostI (T : Tb) (E : XK) (p : Bool) (B G H : Hp) (ios : Fx) (σ : L2.St) (R : It → Hp → Prop) : Option OuI → Prop
  | none => False
  | some (.ok ops ds env') => ∀ G' H' J, Sep T B G' H' ios env' σ → Same G G' → (p = true → Same H H') → (∀ Fr, Same G' Fr → (∀ i ∈ ops, ∀ a, OwnAt env' σ i a → Fr a = H' a) → ItOk T J Fr G' ds) → R J H'
  | some (.ex c) => ∀ H' o, Same B H' → (p = true → Same H H') → E (.ref (T.xc c)) o H'
def rdI (T : Tb) (E : XK) (p : Bool) (f : FI) : TI := fun σ H R => ∃ B G ios env, Sep T B G H ios env σ ∧ PostI T E p B G H ios σ R (f env)
structure SI (X : Cx) (c : Tc) (E : XK) (p : Bool) (tg iter : Expr) (f : FI) : Prop where
  run : PI X tg iter (rdI (tb X c) E p f)
theorem PI.weak {X : Cx} {tg e : Expr} {t t' : TI} (h : PI X tg e t) (w : ∀ σ H R, t' σ H R → t σ H R) : PI X tg e t' := ⟨fun pins s σ H R I q => h.run pins s σ H R I (w σ H R q)⟩
def opsOf : Val → List Nat
  | .vr i => [i]
  | _ => []

section
variable {X : Cx} {tg : Expr}
/-- a list or a tuple -/
def iSeq (K : PySem.W.Frag) (tl : TE) : TI := fun σ H R => tl σ H fun x H1 => ∃ a, x = .ref a ∧ (((∃ xs, SqL K H1 a xs) ∧ R (Itl K a) H1) ∨ ((∃ xs, SqT K H1 a xs) ∧ R (Itt K a) H1))
theorem pi_seq {l : Expr} {tl : TE} (hl : PE X l tl) : PI X tg l (iSeq X.K tl) := by
  refine ⟨fun pins s σ H R I h => ?_⟩
  refine thn (hl.run pins s σ H _ I h) fun v s1 ⟨x, H1, I1, r1, q1⟩ => ?_
  obtain ⟨a, e, q1⟩ := q1
  subst e
  cases r1
  have fp : ∀ b ∈ [s1.heap.objs.size], FpOk X pins H1 b := fun b hb => by
    have e : b = s1.heap.objs.size := by simpa using hb
    subst e
    exact I1.fpOk (Nat.le_refl _) (I1.hok.fresh (Nat.le_refl _))
  rcases q1 with ⟨⟨xs, hq⟩, q⟩ | ⟨⟨xs, hq⟩, q⟩
  · obtain ⟨its, rv, p, hz⟩ := I1.list hq
    refine wpAny_pyIter_list p.isList ?_
    exact ⟨s1.heap.objs.size, [s1.heap.objs.size], _, _, H1, rfl, I1.kept (t' := s1.toks) fun b o e => Heap.get?_push_of_some _ e, turn_list a _, ⟨_, Heap.get?_push_size _ rfl, rfl, rfl⟩, fp, q⟩
  · obtain ⟨its, rv, p, hz⟩ := I1.tuple hq
    refine wpAny_pyIter_tuple (show s1.heap.IsTuple a its.toArray from p) ?_
    exact ⟨s1.heap.objs.size, [s1.heap.objs.size], _, _, H1, rfl, I1.kept (t' := s1.toks) fun b o e => Heap.get?_push_of_some _ e, turn_tuple a _, ⟨_, Heap.get?_push_size _ rfl, rfl, rfl⟩, fp, q⟩
end

section
variable {T : Tb} {F G0 H : Hp} {ds es : List D} {vs ws : List V} {a b : Addr}
theorem Reps.at : ∀ {ds : List D} {vs : List V} {i : Nat} {d : D} {v : V}, Reps T G0 ds vs → ds[i]? = some d → vs[i]? = some v → Rep T G0 d v
  | [], _, i, d, v, _, h, _ => by simp at h
  | d0 :: ds, vs, i, d, v, r, h, k => by
    simp only [Reps] at r
    obtain ⟨v0, r0, e, r1, r2⟩ := r
    subst e
    cases i with
    | zero => simp at h k; subst h; subst k; exact r1
    | succ i => exact Reps.at r2 (by simpa using h) (by simpa using k)
theorem itOk_list (hq : SqL T.K F a vs) (r : Reps T G0 ds vs) (g : Same G0 F) : ItOk T (Itl T.K a) F G0 ds := by
  have w := walk_list (K := T.K) (a := a) (xs := vs)
  refine ⟨fun i H hi s => w.goes i H (by rw [Reps.length r]; exact hi) (s.seq hq), fun H s => by rw [← Reps.length r]; exact w.stops H (s.seq hq), fun i H x H' d s y hd => ?_⟩
  have hi : i < vs.length := by rw [Reps.length r]; exact (List.getElem?_eq_some_iff.mp hd).1
  obtain ⟨e, hx⟩ := w.yields i H x H' hi (s.seq hq) y
  subst e
  exact ⟨Same.refl _, G0, Same.refl _, fun b hb => .inl hb, g.trans s, r.at hd hx⟩
theorem itOk_tup (hq : SqT T.K F a vs) (r : Reps T G0 ds vs) (g : Same G0 F) : ItOk T (Itt T.K a) F G0 ds := by
  have w := walk_tup (K := T.K) (a := a) (xs := vs)
  refine ⟨fun i H hi s => w.goes i H (by rw [Reps.length r]; exact hi) (Same.sqT s hq), fun H s => by rw [← Reps.length r]; exact w.stops H (Same.sqT s hq), fun i H x H' d s y hd => ?_⟩
  have hi : i < vs.length := by rw [Reps.length r]; exact (List.getElem?_eq_some_iff.mp hd).1
  obtain ⟨e, hx⟩ := w.yields i H x H' hi (Same.sqT s hq) y
  subst e
  exact ⟨Same.refl _, G0, Same.refl _, fun b hb => .inl hb, g.trans s, r.at hd hx⟩
theorem itOk_range {lo : Int} {n : Nat} (g : Same G0 F) : ItOk T (Itr lo n) F G0 ((List.range n).map fun (i : Nat) => D.int (lo + (i : Int))) := by
  have w := walk_range (lo := lo) (n := n)
  refine ⟨fun i H hi s => w.goes i H (by simpa using hi) trivial, fun H s => by simpa using w.stops H trivial, fun i H x H' d s y hd => ?_⟩
  have hi : i < n := by have := (List.getElem?_eq_some_iff.mp hd).1; simpa using this
  obtain ⟨e, hx⟩ := w.yields i H x H' hi trivial y
  subst e
  have hd' : d = .int (lo + (i : Int)) := by simp [hi] at hd; exact hd.symm
  exact ⟨Same.refl _, G0, Same.refl _, fun b hb => .inl hb, g.trans s, by rw [hd', hx]; simp [Rep]⟩
/-- new pairs -/
theorem itOk_pair {J : It} {n : Nat} {W : Hp → Prop} {xs ys : Nat → Option V} (w : Walk J n W (YPair xs ys)) (hW : ∀ H, Same F H → W H) (g : Same G0 F) (hl : ds.length = n)
    (hd : ∀ i d, ds[i]? = some d → ∃ d1 d2, d = .tup [d1, d2] ∧ ∀ x y, xs i = some x → ys i = some y → Rep T G0 d1 x ∧ Rep T G0 d2 y) : ItOk T J F G0 ds := by
  refine ⟨fun i H hi s => w.goes i H (by omega) (hW H s), fun H s => by rw [hl]; exact w.stops H (hW H s), fun i H v H' d s y q => ?_⟩
  have hi : i < n := by rw [← hl]; exact (List.getElem?_eq_some_iff.mp q).1
  obtain ⟨A, x, z, rfl, h1, h2, h3, h4⟩ := w.yields i H v H' hi (hW H s) y
  subst h2
  obtain ⟨d1, d2, rfl, h5⟩ := hd i d q
  obtain ⟨r1, r2⟩ := h5 x z h3 h4
  have g0 : Same G0 H := g.trans s
  have gn := none_of_same g0 h1
  refine ⟨same_upd h1, upd G0 A (.tup [x, z]), same_upd gn, fun b hb => ?_, upd_same2 g0 h1, ?_⟩
  · by_cases e : b = A
    · subst e; exact .inr h1
    · rw [upd_ne e] at hb; exact .inl hb
  · refine rep_tup upd_same ?_
    exact ⟨x, [z], rfl, Rep.mono (same_upd gn) r1, z, [], rfl, Rep.mono (same_upd gn) r2, rfl⟩
end

def seqI (f : F) : FI := fun env => match f env with
  | some (.ok r e) => match peek e r with
    | some (.lst ds) => some (.ok (opsOf r) ds e)
    | some (.tup ds) => some (.ok (opsOf r) ds e)
    | _ => none
  | some (.ex c) => some (.ex c)
  | none => none
section
variable {T : Tb} {E : XK} {p : Bool} {B G G1 H : Hp} {ios : Fx} {env : List Ent} {σ : L2.St}
theorem PostI.mono {R : It → Hp → Prop} {o : Option OuI} (h : PostI T E p B G H ios σ R o) (s : Same G G1) : PostI T E p B G1 H ios σ R o := by
  cases o with
  | none => exact h.elim
  | some u => cases u with
    | ok a b e => exact fun G' H' J S sg => h G' H' J S (s.trans sg)
    | ex c => exact h
/-- an operand that is a list: where it stands in a heap that has the cells of one's own -/
theorem OpdOk.lst {v : V} {r : Val} {ds : List D} {Fr : Hp} (S : Sep T B G H ios env σ) (V : OpdOk T G σ v r) (hp : peek env r = some (.lst ds)) (hF : Same G Fr) (ho : ∀ i ∈ opsOf r, ∀ a, OwnAt env σ i a → Fr a = H a) :
    ∃ a vs, v = .ref a ∧ SqL T.K Fr a vs ∧ SqL T.K H a vs ∧ Reps T G ds vs := by
  have sh : Rep T G (.lst ds) v → ∃ a vs, v = .ref a ∧ SqL T.K Fr a vs ∧ SqL T.K H a vs ∧ Reps T G ds vs := fun h => by
    simp only [Rep] at h
    obtain ⟨a, vs, e, h1, h2⟩ := h
    exact ⟨a, vs, e, SqL.of (hF _ _ h1), SqL.of (S.gh _ _ h1), h2⟩
  cases r with
  | sh d => cases hp; exact sh V
  | fr d => exact V.elim
  | vr i =>
    have hσ : σ[i]? = some (some v) := V
    unfold peek at hp
    cases z : env[i]? with
    | none => simp only [z] at hp; cases hp
    | some e =>
      have q := S.ent i e z
      rw [hσ] at q
      simp only [z] at hp
      cases e with
      | no => cases hp
      | slf _ _ _ => cases hp
      | sh d =>
        cases hp
        obtain ⟨w, h1, h2⟩ := q
        cases h1
        exact sh h2
      | own d =>
        cases hp
        obtain ⟨a, h1, vs, k1, k2, k3, k4⟩ := q
        cases h1
        exact ⟨a, vs, rfl, SqL.of (by rw [ho i (by simp [opsOf]) a ⟨⟨_, z, rfl⟩, hσ⟩]; exact k1), SqL.of k1, k2⟩
      | io d =>
        cases hp
        obtain ⟨a, h1, ⟨vs, k1, k2, k3, k4⟩, _⟩ := q
        cases h1
        exact ⟨a, vs, rfl, SqL.of (by rw [ho i (by simp [opsOf]) a ⟨⟨_, z, rfl⟩, hσ⟩]; exact k1), SqL.of k1, k2⟩
theorem OpdOk.tup {v : V} {r : Val} {ds : List D} (S : Sep T B G H ios env σ) (V : OpdOk T G σ v r) (hp : peek env r = some (.tup ds)) : ∃ a vs, v = .ref a ∧ SqT T.K G a vs ∧ Reps T G ds vs := by
  have h := V.repT S hp
  rcases h with h | ⟨_, _, _, _, h, _⟩
  · simp only [Rep] at h; exact h
  · cases h
theorem opsOf_norm {r : Val} : opsOf r.norm = opsOf r := by cases r <;> rfl
end
section
variable {X : Cx} {c : Tc} {E : XK} {pos : Pos} {tg e a b : Expr} {p q : Bool} {f fa fb : F} {px : Pos}
theorem si_seq (he : SE X c E p e f) : SI X c E p tg e (seqI f) := ⟨PI.weak (pi_seq he.run) fun σ H R h => by
  obtain ⟨B, G, ios, env, S, h⟩ := h
  refine ⟨B, G, ios, env, S, ?_⟩
  unfold seqI at h
  generalize f env = o at h ⊢
  cases o with
  | none => exact h.elim
  | some u => cases u with
    | ex c => exact h
    | ok r e1 =>
      intro G1 H1 v S1 sg1 sp1 V1
      obtain ⟨G2, S2, sg2, V2⟩ := V1.opd S1
      cases k : peek e1 r with
      | none => simp only [k] at h; exact h.elim
      | some d =>
        simp only [k] at h
        cases d with
        | lst ds =>
          obtain ⟨a, vs, e, _, h2, h3⟩ := V2.lst S2 (by rw [peek_norm]; exact k) (Fr := H1) S2.gh (fun _ _ _ _ => rfl)
          subst e
          refine ⟨a, rfl, .inl ⟨⟨vs, h2⟩, h G2 H1 _ S2 (sg1.trans sg2) sp1 fun Fr hF ho => ?_⟩⟩
          obtain ⟨a', vs', e, h2', _, h3'⟩ := V2.lst S2 (by rw [peek_norm]; exact k) hF (by rw [opsOf_norm]; exact ho)
          cases e
          exact itOk_list h2' h3' hF
        | tup ds =>
          obtain ⟨a, vs, e, h2, h3⟩ := V2.tup S2 (by rw [peek_norm]; exact k)
          subst e
          refine ⟨a, rfl, .inr ⟨⟨vs, Same.sqT S2.gh h2⟩, h G2 H1 _ S2 (sg1.trans sg2) sp1 fun Fr hF ho => ?_⟩⟩
          exact itOk_tup (Same.sqT hF h2) h3 hF
        | _ => exact h.elim⟩
def rangeD (lo hi : Int) : List D := (List.range (hi - lo).toNat).map fun (i : Nat) => D.int (lo + (i : Int))
def rg1I (fs : FA) : FI := fun env => match fs env with
  | some (.ok rs e) => match peeks e rs with
    | some [.int j] => if -4611686018427387904 ≤ j ∧ j < 4611686018427387904 then some (.ok [] (rangeD 0 j) e) else none
    | _ => none
  | some (.ex c) => some (.ex c)
  | none => none
def rg2I (fs : FA) : FI := fun env => match fs env with
  | some (.ok rs e) => match peeks e rs with
    | some [.int i, .int j] => if (-4611686018427387904 ≤ i ∧ i < 4611686018427387904) ∧ (-4611686018427387904 ≤ j ∧ j < 4611686018427387904) then some (.ok [] (rangeD i j) e) else none
    | _ => none
  | some (.ex c) => some (.ex c)
  | none => none
theorem repTs1 {T : Tb} {G H : Hp} {d : D} {vs : List V} (h : RepTs T G H [d] vs) : ∃ v, vs = [v] ∧ RepT T G H d v := by
  cases vs with
  | nil => exact h.elim
  | cons v vs => cases vs with
    | nil => exact ⟨v, rfl, h.1⟩
    | cons w ws => exact h.2.elim
theorem repTs2 {T : Tb} {G H : Hp} {d e : D} {vs : List V} (h : RepTs T G H [d, e] vs) : ∃ v w, vs = [v, w] ∧ RepT T G H d v ∧ RepT T G H e w := by
  cases vs with
  | nil => exact h.elim
  | cons v vs => cases vs with
    | nil => exact h.2.elim
    | cons w ws => cases ws with
      | nil => exact ⟨v, w, rfl, h.1, h.2.1⟩
      | cons _ _ => exact h.2.2.elim
theorem RepT.int {T : Tb} {G H : Hp} {i : Int} {v : V} (h : RepT T G H (.int i) v) : v = .int i := by
  rcases h with h | ⟨_, _, _, _, h, _⟩
  · simpa [Rep] using h
  · cases h
theorem si_range1 {fs : FA} (hm : X.mg "range" = none) (ha : SA X c E p [a] fs) (hg : Gl X "range" := by rfl) (hs : starEach [a] X.env = [(false, eval a X.env)] := by rfl) : SI X c E p tg (.Call (.Name "range" px) [a] [] pos) (rg1I fs) :=
  ⟨PI.weak (pi_range1 hg hm ha.run hs) fun σ H R h => by
    obtain ⟨B, G, ios, env, S, h⟩ := h
    refine ⟨B, G, ios, env, S, ?_⟩
    unfold rg1I at h
    generalize fs env = o at h ⊢
    cases o with
    | none => exact h.elim
    | some u => cases u with
      | ex c => exact h
      | ok rs e1 =>
        intro G1 H1 vs S1 sg1 sp1 V1
        dsimp only at h
        split at h
        · rename_i j k
          obtain ⟨v, e, r⟩ := repTs1 (V1.repTs S1 k)
          subst e
          rw [r.int]
          by_cases hb : -4611686018427387904 ≤ j ∧ j < 4611686018427387904
          · rw [if_pos hb] at h
            refine ⟨j, rfl, by omega, by omega, h G1 H1 _ S1 sg1 sp1 fun Fr hF ho => ?_⟩
            have := itOk_range (T := tb X c) (lo := 0) (n := j.toNat) hF
            simpa [rangeD] using this
          · rw [if_neg hb] at h; exact h.elim
        · exact h.elim⟩
theorem si_range2 {fs : FA} (hm : X.mg "range" = none) (ha : SA X c E p [a, b] fs) (hg : Gl X "range" := by rfl) (hs : starEach [a, b] X.env = [(false, eval a X.env), (false, eval b X.env)] := by rfl) (hs2 : starEach [b] X.env = [(false, eval b X.env)] := by rfl) : SI X c E p tg (.Call (.Name "range" px) [a, b] [] pos) (rg2I fs) :=
  ⟨PI.weak (pi_range2 hg hm ha.run hs hs2) fun σ H R h => by
    obtain ⟨B, G, ios, env, S, h⟩ := h
    refine ⟨B, G, ios, env, S, ?_⟩
    unfold rg2I at h
    generalize fs env = o at h ⊢
    cases o with
    | none => exact h.elim
    | some u => cases u with
      | ex c => exact h
      | ok rs e1 =>
        intro G1 H1 vs S1 sg1 sp1 V1
        dsimp only at h
        split at h
        · rename_i i j k
          obtain ⟨v, w, e, r, r2⟩ := repTs2 (V1.repTs S1 k)
          subst e
          rw [r.int, r2.int]
          by_cases hb : (-4611686018427387904 ≤ i ∧ i < 4611686018427387904) ∧ (-4611686018427387904 ≤ j ∧ j < 4611686018427387904)
          · rw [if_pos hb] at h
            refine ⟨i, j, rfl, ⟨by omega, by omega, by omega, by omega⟩, h G1 H1 _ S1 sg1 sp1 fun Fr hF ho => ?_⟩
            exact itOk_range (T := tb X c) (lo := i) (n := (j - i).toNat) hF
          · rw [if_neg hb] at h; exact h.elim
        · exact h.elim⟩
end
end Ev
namespace Ev
open PySem PySem.Spec L2

/-! ### loops -/
/-- own lists that are walked are let go -/
def frz : List Ent → List Nat → Option (List Ent)
  | env, [] => some env
  | env, i :: r => match store env (.vr i) with
    | some (_, e) => frz e r
    | none => none
def forL (g : FG) (b : FS) : List D → FS
  | [], env => some (.nx env)
  | d :: ds, env => match g d env with
    | none => none
    | some e1 => match b e1 with
      | some (.nx e2) => forL g b ds e2
      | some (.ct e2) => forL g b ds e2
      | some (.bk e2) => some (.nx e2)
      | o => o
def forF (it : FI) (g : FG) (b : FS) : FS := fun env => match it env with
  | some (.ok ops ds e) => match frz e ops with
    | some e1 => forL g b ds e1
    | none => none
  | some (.ex c) => some (.ex c)
  | none => none
section
variable {T : Tb} {B G G1 H H' : Hp} {ios : Fx} {env env' : List Ent} {σ : L2.St}
/-- the two shared parts together -/
theorem Sep.join (S : Sep T B G H ios env σ) {G0 Gy H' : Hp} {d : D} {x : V} (s0 : Same G0 G) (sh : Same H H') (gy1 : Same G0 Gy) (gy2 : ∀ b, Gy b ≠ none → G0 b ≠ none ∨ H b = none) (gy3 : Same Gy H') (ry : Rep T Gy d x) :
    ∃ G2, Sep T B G2 H' ios env σ ∧ Same G G2 ∧ Rep T G2 d x ∧ ∀ b, G2 b ≠ none → G b ≠ none ∨ H b = none := by
  refine ⟨fun a => (G a).or (Gy a), S.grow ⟨fun a o e => by show (G a).or (Gy a) = some o; rw [e]; rfl, fun a o e => ?_, sh, fun a ha ga => ?_⟩, fun a o e => by show (G a).or (Gy a) = some o; rw [e]; rfl, Rep.mono (fun a o e => ?_) ry, fun b hb => ?_⟩
  · cases z : G a with
    | some o' => rw [z] at e; cases e; exact sh a _ (S.gh a _ z)
    | none => rw [z] at e; exact gy3 a o e
  · show (G a).or (Gy a) = none
    rw [ga]
    cases z : Gy a with
    | none => rfl
    | some o =>
      rcases gy2 a (by rw [z]; simp) with w | w
      · cases z2 : G0 a with
        | none => exact absurd z2 w
        | some o2 =>
          have := s0 a o2 z2
          rw [ga] at this; cases this
      · exact absurd w ha
  · show (G a).or (Gy a) = some o
    cases z : G a with
    | none => exact e
    | some o' =>
      have h1 := sh a _ (S.gh a _ z)
      have h2 := gy3 a o e
      rw [h1] at h2
      exact h2
  · cases z : G b with
    | some o => exact .inl (by simp)
    | none =>
      have hb : (G b).or (Gy b) ≠ none := hb
      rw [z] at hb
      rcases gy2 b hb with w | w
      · cases z2 : G0 b with
        | none => exact absurd z2 w
        | some o2 =>
          have := s0 b o2 z2
          rw [z] at this; cases this
      · exact .inr w
end
section
variable {T : Tb} {B G G1 H H' : Hp} {ios : Fx} {env env' : List Ent} {σ : L2.St}
theorem Sep.frz : ∀ {ops : List Nat} {G : Hp} {env env' : List Ent}, Sep T B G H ios env σ → Ev.frz env ops = some env' → ∃ G1, Sep T B G1 H ios env' σ ∧ Same G G1 ∧ ∀ i ∈ ops, ∀ a, OwnAt env σ i a → G1 a = H a
  | [], G, env, env', S, h => by cases h; exact ⟨G, S, Same.refl G, by simp⟩
  | i :: r, G, env, env', S, h => by
    unfold Ev.frz at h
    cases k : Ev.store env (.vr i) with
    | none => simp only [k] at h; cases h
    | some u =>
      obtain ⟨d, e1⟩ := u
      simp only [k] at h
      have key : ∃ G1, Sep T B G1 H ios e1 σ ∧ Same G G1 ∧ (∀ a, OwnAt env σ i a → G1 a = H a) ∧ ∀ j a, j ≠ i → OwnAt env σ j a → OwnAt e1 σ j a := by
        unfold Ev.store at k
        dsimp only at k
        cases z : env[i]? with
        | none => simp only [z] at k; cases k
        | some e =>
          simp only [z] at k
          have q := S.ent i e z
          cases e with
          | no => cases k
          | io _ => cases k
          | slf _ _ _ => cases k
          | sh d =>
            cases k
            refine ⟨G, S, Same.refl G, fun a o => ?_, fun j a _ o => o⟩
            obtain ⟨⟨e, z', m⟩, _⟩ := o
            rw [z] at z'; cases z'; cases m
          | own d =>
            cases k
            obtain ⟨a, h1, _⟩ := q
            obtain ⟨G1, S1, sg, _, hG⟩ := S.freeze z h1
            refine ⟨G1, S1, sg, fun b o => ?_, fun j b n o => ?_⟩
            · have := o.2
              rw [h1] at this; cases this
              exact hG
            · obtain ⟨⟨e, z', m⟩, hs⟩ := o
              exact ⟨⟨e, by rw [List.getElem?_set_ne (Ne.symm n)]; exact z', m⟩, hs⟩
      obtain ⟨G1, S1, sg1, o1, o2⟩ := key
      obtain ⟨G2, S2, sg2, h2⟩ := Sep.frz S1 h
      refine ⟨G2, S2, sg1.trans sg2, fun j hj a o => ?_⟩
      by_cases e : j = i
      · subst e
        have hG := o1 a o
        obtain ⟨_, _, ob, ho⟩ := S.own o
        rw [ho] at hG ⊢
        exact sg2 a ob hG
      · rcases List.mem_cons.mp hj with q | q
        · exact absurd q e
        · exact h2 j q a (o2 j a e o)
end

section
variable {X : Cx} {c : Tc} {E : XK} {pos : Pos} {tg iter : Expr} {body : List Stmt} {p : Bool} {it : FI} {g : FG} {b : FS}
theorem ss_for {ns : List Nat} (ho : PassesOwn (model X.prog X.w) X.A X.env X.xe) (hc : X.calm = true) (hi : SI X c E p tg iter it) (hg : SG X c ns tg g) (hb : SSs X c E body b) (hs : ∀ x, foldedSetIterable iter X.env x = pure x := by intro _; rfl) : SS X c E (.For tg iter body [] pos) (forF it g b) := ⟨PS.weak (ps_for ho hc hi.run hg.run hb.run hs) fun Dn σ H q => by
  obtain ⟨B, G, ios, env, S, q⟩ := q
  refine ⟨B, G, ios, env, S, ?_⟩
  unfold forF at q
  generalize it env = o at q ⊢
  cases o with
  | none => exact q.elim
  | some u => cases u with
    | ex c => exact fun H' o sb _ => q H' o sb
    | ok ops ds e =>
      intro G1 H1 J S1 sg1 _ hJ
      dsimp only at q
      cases k : frz e ops with
      | none => rw [k] at q; exact q.elim
      | some e1 =>
        rw [k] at q
        dsimp only at q
        obtain ⟨G2, S2, sg2, h2⟩ := S1.frz k
        have IT := hJ G2 sg2 fun i hi a o => h2 i hi a o
        refine ⟨fun i m σ H => m = ds.length - i ∧ i ≤ ds.length ∧ ∃ Gc ec, Sep (tb X c) B Gc H ios ec σ ∧ Same G2 Gc ∧ PostS (tb X c) E B Gc ios Dn (forL g b (ds.drop i) ec), ⟨ds.length, by simp, Nat.zero_le _, G2, e1, S2, Same.refl _, PostS.mono q (sg1.trans sg2)⟩, ?_⟩
        rintro i m σ3 H3 ⟨rfl, hi, Gc, ec, Sc, sgc, qc⟩
        have sF : Same G2 H3 := sgc.trans Sc.gh
        by_cases hlt : i < ds.length
        · refine .inr ⟨IT.go i H3 hlt sF, fun σ' H' => i < ds.length ∧ ∃ Gc ec, Sep (tb X c) B Gc H' ios ec σ' ∧ Same G2 Gc ∧ PostS (tb X c) E B Gc ios Dn (forL g b (ds.drop (i + 1)) ec), fun σ' H' ⟨h1, h2⟩ => ⟨ds.length - (i + 1), by omega, rfl, by omega, h2⟩, fun x H' y => ?_⟩
          have hd : ds[i]? = some ds[i] := by simp [hlt]
          obtain ⟨sh, Gy, gy1, gy2, gy3, ry⟩ := IT.yld i H3 x H' ds[i] sF y hd
          rw [List.drop_eq_getElem_cons hlt] at qc
          obtain ⟨Gj, Sg, sgm, ry2, _⟩ := Sc.join (sg2.trans sgc) sh gy1 gy2 gy3 ry
          refine ⟨B, _, ios, ec, ds[i], Sg, ry2, ?_⟩
          have qc : PostS (tb X c) E B Gc ios Dn (match g ds[i] ec with
            | none => none
            | some e1 => match b e1 with
              | some (.nx e2) => forL g b (ds.drop (i + 1)) e2
              | some (.ct e2) => forL g b (ds.drop (i + 1)) e2
              | some (.bk e2) => some (.nx e2)
              | o => o) := qc
          cases k2 : g ds[i] ec with
          | none => rw [k2] at qc; exact qc.elim
          | some e2 =>
            rw [k2] at qc
            dsimp only at qc ⊢
            intro G4 σ4 S4 sg4 _
            refine ⟨B, G4, ios, e2, S4, ?_⟩
            have sg24 : Same G2 G4 := (sgc.trans sgm).trans sg4
            have sgc4 : Same Gc G4 := sgm.trans sg4
            cases k3 : b e2 with
            | none => rw [k3] at qc; exact qc.elim
            | some u =>
              rw [k3] at qc
              cases u with
              | nx e3 => exact fun G5 H5 σ5 S5 sg5 => ⟨hlt, G5, e3, S5, sg24.trans sg5, PostS.mono qc (sgc4.trans sg5)⟩
              | ct e3 => exact fun G5 H5 σ5 S5 sg5 => ⟨hlt, G5, e3, S5, sg24.trans sg5, PostS.mono qc (sgc4.trans sg5)⟩
              | bk e3 => exact fun G5 H5 σ5 S5 sg5 => qc G5 H5 σ5 S5 (sgc4.trans sg5)
              | rt r e3 => exact fun G5 H5 σ5 v S5 sg5 => qc G5 H5 σ5 v S5 (sgc4.trans sg5)
              | ex c => exact qc
        · have e : i = ds.length := by omega
          subst e
          rw [List.drop_length] at qc
          exact .inl ⟨IT.stop H3 sF, qc Gc H3 σ3 Sc (Same.refl _)⟩⟩
end

/-! ### while -/
def whileN (t : FT) (b : FS) : Nat → FS
  | 0, _ => none
  | n + 1, env => match t env with
    | some (.ok true e) => match b e with
      | some (.nx e2) => whileN t b n e2
      | some (.ct e2) => whileN t b n e2
      | some (.bk e2) => some (.nx e2)
      | o => o
    | some (.ok false e) => some (.nx e)
    | some (.ex c) => some (.ex c)
    | none => none
theorem whileN_more {t : FT} {b : FS} : ∀ {n : Nat} {env : List Ent} {o : So}, whileN t b n env = some o → ∀ m, n ≤ m → whileN t b m env = some o
  | 0, _, _, h, _, _ => by cases h
  | n + 1, env, o, h, m, hm => by
    cases m with
    | zero => omega
    | succ m =>
      have ih := fun {e : List Ent} {o : So} (h : whileN t b n e = some o) => whileN_more h m (by omega)
      unfold whileN at h ⊢
      cases k : t env with
      | none => rw [k] at h; cases h
      | some u => cases u with
        | ex c => rw [k] at h; exact h
        | ok bb e => cases bb with
          | false => rw [k] at h; exact h
          | true =>
            rw [k] at h
            dsimp only at h ⊢
            cases k2 : b e with
            | none => rw [k2] at h; cases h
            | some w =>
              rw [k2] at h
              cases w with
              | nx e2 => exact ih h
              | ct e2 => exact ih h
              | bk e2 => exact h
              | rt r e2 => exact h
              | ex c => exact h
open Classical in
/-- the loop, if it ends -/
noncomputable def whileF (t : FT) (b : FS) : FS := fun env => if h : ∃ n o, whileN t b n env = some o then some h.choose_spec.choose else none
theorem whileF_of {t : FT} {b : FS} {n : Nat} {env : List Ent} {o : So} (h : whileN t b n env = some o) : whileF t b env = some o := by
  have hx : ∃ n o, whileN t b n env = some o := ⟨n, o, h⟩
  unfold whileF
  rw [dif_pos hx]
  have h1 := hx.choose_spec.choose_spec
  have h2 := whileN_more h1 (max hx.choose n) (Nat.le_max_left _ _)
  have h3 := whileN_more h (max hx.choose n) (Nat.le_max_right _ _)
  rw [h2] at h3
  exact h3
theorem whileF_to {t : FT} {b : FS} {env : List Ent} {o : So} (h : whileF t b env = some o) : ∃ n, whileN t b n env = some o := by
  unfold whileF at h
  by_cases hx : ∃ n o, whileN t b n env = some o
  · rw [dif_pos hx] at h
    exact ⟨hx.choose, by rw [hx.choose_spec.choose_spec]; exact h⟩
  · rw [dif_neg hx] at h; cases h
section
variable {X : Cx} {c : Tc} {E : XK} {pos : Pos} {e : Expr} {body : List Stmt} {p : Bool} {t : FT} {b : FS}
theorem ss_while (ho : PassesOwn (model X.prog X.w) X.A X.env X.xe) (ht : ST X c E p e t) (hb : SSs X c E body b) : SS X c E (.While e body [] pos) (whileF t b) := ⟨PS.weak (ps_while ho ht.run hb.run) fun Dn σ H q => by
  obtain ⟨B, G, ios, env, S, q⟩ := q
  cases k : whileF t b env with
  | none => rw [k] at q; exact q.elim
  | some o =>
    obtain ⟨n, hn⟩ := whileF_to k
    rw [k, ← hn] at q
    refine ⟨fun m σ H => ∃ Gc ec, Sep (tb X c) B Gc H ios ec σ ∧ PostS (tb X c) E B Gc ios Dn (whileN t b m ec), ⟨n, G, env, S, q⟩, ?_⟩
    rintro m σ1 H1 ⟨Gc, ec, Sc, qc⟩
    refine ⟨B, Gc, ios, ec, Sc, ?_⟩
    cases m with
    | zero => exact qc.elim
    | succ m =>
      unfold whileN at qc
      cases k2 : t ec with
      | none => rw [k2] at qc; exact qc.elim
      | some u => cases u with
        | ex c => rw [k2] at qc; exact fun H' o sb _ => qc H' o sb
        | ok bb e1 =>
          rw [k2] at qc
          intro G2 H2 S2 sg2 _
          cases bb with
          | false =>
            rw [if_neg Bool.false_ne_true]
            exact qc G2 H2 σ1 S2 sg2
          | true =>
            rw [if_pos rfl]
            dsimp only at qc
            refine ⟨fun σ' H' => ∃ Gc ec, Sep (tb X c) B Gc H' ios ec σ' ∧ PostS (tb X c) E B Gc ios Dn (whileN t b m ec), fun σ' H' h => ⟨m, Nat.lt_succ_self _, h⟩, B, G2, ios, e1, S2, ?_⟩
            cases k3 : b e1 with
            | none => rw [k3] at qc; exact qc.elim
            | some w =>
              rw [k3] at qc
              cases w with
              | nx e3 => exact fun G5 H5 σ5 S5 sg5 => ⟨G5, e3, S5, PostS.mono qc (sg2.trans sg5)⟩
              | ct e3 => exact fun G5 H5 σ5 S5 sg5 => ⟨G5, e3, S5, PostS.mono qc (sg2.trans sg5)⟩
              | bk e3 => exact fun G5 H5 σ5 S5 sg5 => qc G5 H5 σ5 S5 (sg2.trans sg5)
              | rt r e3 => exact fun G5 H5 σ5 v S5 sg5 => qc G5 H5 σ5 v S5 (sg2.trans sg5)
              | ex c => exact qc⟩
end
end Ev
namespace Ev
open PySem PySem.Spec L2

/-! ### comprehensions -/
def wipeE (env : List Ent) : List Nat → List Ent
  | [] => env
  | v :: vs => (wipeE env vs).set v .no
/-- the outer entries again at the block's own names -/
def backE (outer inner : List Ent) : List Nat → Option (List Ent)
  | [] => some inner
  | v :: vs => match backE outer inner vs with
    | none => none
    | some e => match outer[v]? with
      | some .no => some (e.set v .no)
      | some (.sh d) => some (e.set v (.sh d))
      | _ => none
def compL (g : FG) (tt : FT) (fe : F) (own : List Nat) : List D → List Ent → List D → Option (List D × List Ent)
  | [], e, acc => some (acc, e)
  | d :: ds, e, acc => match g d e with
    | none => none
    | some e1 => match tt e1 with
      | some (.ok false e2) => compL g tt fe own ds (wipeE e2 own) acc
      | some (.ok true e2) => match fe e2 with
        | some (.ok r e3) => match store e3 r with
          | some (y, e4) => compL g tt fe own ds (wipeE e4 own) (acc ++ [y])
          | none => none
        | _ => none
      | _ => none
/-- pb: the block changes nothing that stood (else lists of one's own that are walked are let go) -/
def compF (pb : Bool) (own : List Nat) (it : FI) (g : FG) (tt : FT) (fe : F) : F := fun env => match it env with
  | some (.ok ops ds e) => match (if pb = true then some e else frz e ops) with
    | none => none
    | some e1 => if ds.length ≤ 1000000 then match compL g tt fe own ds (wipeE e1 own) [] with
        | none => none
        | some (acc, ein) => match backE e1 ein own with
          | none => none
          | some e2 => some (.ok (.fr (.lst acc)) e2)
      else none
  | some (.ex c) => some (.ex c)
  | none => none

section
variable {T : Tb} {B G G1 H H' : Hp} {ios : Fx} {env env' : List Ent} {σ : L2.St}
theorem wipeE_length : ∀ {vs : List Nat}, (wipeE env vs).length = env.length
  | [] => rfl
  | v :: vs => by unfold wipeE; rw [List.length_set]; exact wipeE_length
theorem Sep.wipe1 (S : Sep T B G H ios env σ) (i : Nat) : Sep T B G H ios (env.set i .no) (σ.set i none) := by
  have aux : ∀ j a, OwnAt (env.set i .no) (σ.set i none) j a → OwnAt env σ j a := fun j a o => by
    obtain ⟨⟨e, h1, h2⟩, h3⟩ := o
    by_cases w : j = i
    · subst w
      by_cases hj : j < env.length
      · rw [List.getElem?_set_self hj] at h1; cases h1; cases h2
      · rw [List.getElem?_eq_none (by rw [List.length_set]; omega)] at h1; cases h1
    · rw [List.getElem?_set_ne (Ne.symm w)] at h1 h3
      exact ⟨⟨e, h1, h2⟩, h3⟩
  refine ⟨by rw [List.length_set, List.length_set]; exact S.len, S.gh, S.bh, fun j e z => ?_, fun j l a n o1 o2 => S.apart j l a n (aux j a o1) (aux l a o2), S.hd⟩
  by_cases w : j = i
  · subst w
    by_cases hj : j < env.length
    · rw [List.getElem?_set_self hj] at z; cases z; trivial
    · rw [List.getElem?_eq_none (by rw [List.length_set]; omega)] at z; cases z
  · rw [List.getElem?_set_ne (Ne.symm w)] at z ⊢
    exact S.ent j e z
theorem Sep.wipe (S : Sep T B G H ios env σ) : ∀ vs : List Nat, Sep T B G H ios (wipeE env vs) (wipe σ vs)
  | [] => S
  | v :: vs => by unfold wipeE L2.wipe; exact (Sep.wipe S vs).wipe1 v
theorem wipe_get {vs : List Nat} {i : Nat} (h : i ∉ vs) : (wipe σ vs)[i]? = σ[i]? := wipe_out h
theorem wipe_at : ∀ {vs : List Nat} {i : Nat}, i ∈ vs → i < σ.length → (wipe σ vs)[i]? = some none
  | v :: vs, i, h, hl => by
    unfold L2.wipe
    by_cases e : i = v
    · subst e; rw [List.getElem?_set_self (by rw [wipe_length]; exact hl)]
    · rw [List.getElem?_set_ne (Ne.symm e)]
      exact wipe_at ((List.mem_cons.mp h).resolve_left e) hl
theorem wipe_agree {vs ns : List Nat} {σ' : L2.St} (h : Agree ns (wipe σ vs) σ') (hs : ∀ i ∈ ns, i ∈ vs) : wipe σ' vs = wipe σ vs := by
  have hl : σ'.length = σ.length := by rw [h.1, wipe_length]
  apply List.ext_getElem?
  intro i
  by_cases hi : i ∈ vs
  · by_cases hlt : i < σ.length
    · rw [wipe_at hi hlt, wipe_at hi (by omega)]
    · rw [List.getElem?_eq_none (by rw [wipe_length]; omega), List.getElem?_eq_none (by rw [wipe_length]; omega)]
  · rw [wipe_get hi, wipe_get hi, h.2 i fun z => hi (hs i z), wipe_get hi]
/-- the block is left -/
theorem backE_length : ∀ {vs : List Nat} {outer inner e : List Ent}, backE outer inner vs = some e → e.length = inner.length
  | [], outer, inner, e, h => by cases h; rfl
  | v :: vs, outer, inner, e, h => by
    unfold backE at h
    cases k : backE outer inner vs with
    | none => simp only [k] at h; cases h
    | some e1 =>
      simp only [k] at h
      have ih := backE_length k
      cases z : outer[v]? with
      | none => simp only [z] at h; cases h
      | some x =>
        simp only [z] at h
        cases x with
        | no => cases h; rw [List.length_set]; exact ih
        | sh d => cases h; rw [List.length_set]; exact ih
        | _ => cases h
theorem backE_in : ∀ {vs : List Nat} {outer inner e : List Ent} {i : Nat}, backE outer inner vs = some e → i ∈ vs → i < inner.length → e[i]? = outer[i]? ∧ (outer[i]? = some .no ∨ ∃ d, outer[i]? = some (.sh d))
  | v :: vs, outer, inner, e, i, h, hi, hl => by
    unfold backE at h
    cases k : backE outer inner vs with
    | none => simp only [k] at h; cases h
    | some e1 =>
      simp only [k] at h
      have hle := backE_length k
      cases z : outer[v]? with
      | none => simp only [z] at h; cases h
      | some x =>
        simp only [z] at h
        by_cases w : i = v
        · subst w
          cases x with
          | no => cases h; rw [List.getElem?_set_self (by omega), z]; exact ⟨rfl, .inl rfl⟩
          | sh d => cases h; rw [List.getElem?_set_self (by omega), z]; exact ⟨rfl, .inr ⟨d, rfl⟩⟩
          | _ => cases h
        · have ih := backE_in k ((List.mem_cons.mp hi).resolve_left w) hl
          cases x with
          | no => cases h; rw [List.getElem?_set_ne (Ne.symm w)]; exact ih
          | sh d => cases h; rw [List.getElem?_set_ne (Ne.symm w)]; exact ih
          | _ => cases h
theorem backE_out : ∀ {vs : List Nat} {outer inner e : List Ent} {i : Nat}, backE outer inner vs = some e → i ∉ vs → e[i]? = inner[i]?
  | [], outer, inner, e, i, h, hi => by cases h; rfl
  | v :: vs, outer, inner, e, i, h, hi => by
    unfold backE at h
    cases k : backE outer inner vs with
    | none => simp only [k] at h; cases h
    | some e1 =>
      simp only [k] at h
      have ih := backE_out (i := i) k fun q => hi (List.mem_cons_of_mem _ q)
      have w : v ≠ i := fun q => hi (by rw [q]; exact List.mem_cons_self)
      cases z : outer[v]? with
      | none => simp only [z] at h; cases h
      | some x =>
        simp only [z] at h
        cases x with
        | no => cases h; rw [List.getElem?_set_ne w]; exact ih
        | sh d => cases h; rw [List.getElem?_set_ne w]; exact ih
        | _ => cases h
theorem Sep.back {B0 G0 H0 : Hp} {outer inner : List Ent} {vs : List Nat} (S0 : Sep T B0 G0 H0 ios outer σ) (S : Sep T B G H ios inner (L2.wipe σ vs)) (sg : Same G0 G) (h : backE outer inner vs = some env) : Sep T B G H ios env σ := by
  have hl : inner.length = σ.length := by rw [S.len, wipe_length]
  have he : env.length = inner.length := backE_length h
  have own : ∀ j a, OwnAt env σ j a → OwnAt inner (L2.wipe σ vs) j a := fun j a o => by
    obtain ⟨⟨e, h1, h2⟩, h3⟩ := o
    by_cases w : j ∈ vs
    · have hj : j < inner.length := by rw [← he]; exact (List.getElem?_eq_some_iff.mp h1).1
      obtain ⟨q1, q2⟩ := backE_in h w hj
      rw [q1] at h1
      rcases q2 with q2 | ⟨d, q2⟩
      · rw [q2] at h1; cases h1; cases h2
      · rw [q2] at h1; cases h1; cases h2
    · rw [backE_out h w] at h1
      exact ⟨⟨e, h1, h2⟩, by rw [wipe_get w]; exact h3⟩
  refine ⟨he.trans hl, S.gh, S.bh, fun j e z => ?_, fun j l a n o1 o2 => S.apart j l a n (own j a o1) (own l a o2), S.hd⟩
  by_cases w : j ∈ vs
  · have hj : j < inner.length := by rw [← he]; exact (List.getElem?_eq_some_iff.mp z).1
    obtain ⟨q1, q2⟩ := backE_in h w hj
    rw [q1] at z
    rcases q2 with q2 | ⟨d, q2⟩
    · rw [q2] at z; cases z; trivial
    · rw [q2] at z; cases z
      obtain ⟨v, r1, r2⟩ := S0.ent j _ q2
      exact ⟨v, r1, Rep.mono sg r2⟩
  · rw [backE_out h w] at z
    have := S.ent j e z
    rw [wipe_get w] at this
    exact this
/-- what else is to stay (an object not of the frame) -/
theorem Sep.hold (S : Sep T B G H ios env σ) {a : Addr} {o : HO} (h : H a = some o) (hg : G a = none) (n : ∀ i, ¬ OwnAt env σ i a) : Sep T (upd B a o) G H ⟨ios.io, fun b => b = a ∨ ios.hs b⟩ env σ := by
  have ne : ∀ (i : Nat) (e : Ent) (b : Addr), env[i]? = some e → e.mine = true → σ[i]? = some (some (V.ref b)) → b ≠ a := fun i e b q m z w => n i ⟨⟨e, q, m⟩, by rw [← w]; exact z⟩
  refine ⟨S.len, S.gh, upd_same_of S.bh h, fun i e q => ?_, S.apart, fun b hb => ?_⟩
  rotate_left
  · rcases hb with e | hb
    · subst e; exact ⟨hg, o, upd_same⟩
    · obtain ⟨h1, o', h2⟩ := S.hd b hb
      refine ⟨h1, ?_⟩
      by_cases e : b = a
      · subst e; exact ⟨o, upd_same⟩
      · exact ⟨o', by rw [upd_ne e]; exact h2⟩
  have c := S.ent i e q
  cases e with
  | no => trivial
  | sh d => exact c
  | own d =>
    obtain ⟨b, h1, h2⟩ := c
    refine ⟨b, h1, ?_⟩
    cases d with
    | lst ds => obtain ⟨vs, k1, k2, k3, k4⟩ := h2; exact ⟨vs, k1, k2, k3, by rw [upd_ne (ne i _ b q rfl h1)]; exact k4⟩
    | _ => exact h2.elim
  | io d =>
    obtain ⟨b, h1, h2, h3⟩ := c
    refine ⟨b, h1, ?_, h3⟩
    cases d with
    | lst ds => obtain ⟨vs, k1, k2, k3, k4⟩ := h2; exact ⟨vs, k1, k2, k3, by rw [upd_ne (ne i _ b q rfl h1)]; exact k4⟩
    | _ => exact h2.elim
  | slf c ns ds =>
    obtain ⟨b, dx, fs, h1, k1, k2, k3, k4, k5, k6⟩ := c
    exact ⟨b, dx, fs, h1, k1, k2, k3, k4, by rw [upd_ne (ne i _ b q rfl h1)]; exact k5, k6⟩
theorem Sep.unhold {B0 : Hp} {hs : Addr → Prop} (S : Sep T B G H ⟨ios.io, hs⟩ env σ) (sb : Same B0 B) (hh : ∀ a, ios.hs a → hs a ∧ ∃ o, B0 a = some o) : Sep T B0 G H ios env σ := by
  have nn : ∀ a, B a = none → B0 a = none := fun a h => none_of_same sb h
  refine ⟨S.len, S.gh, sb.trans S.bh, fun i e q => ?_, S.apart, fun a ha => ⟨(S.hd a (hh a ha).1).1, (hh a ha).2⟩⟩
  have c := S.ent i e q
  cases e with
  | no => trivial
  | sh d => exact c
  | own d =>
    obtain ⟨b, h1, h2⟩ := c
    refine ⟨b, h1, ?_⟩
    cases d with
    | lst ds => obtain ⟨vs, k1, k2, k3, k4⟩ := h2; exact ⟨vs, k1, k2, k3, nn _ k4⟩
    | _ => exact h2.elim
  | io d =>
    obtain ⟨b, h1, h2, h3⟩ := c
    refine ⟨b, h1, ?_, h3⟩
    cases d with
    | lst ds => obtain ⟨vs, k1, k2, k3, k4⟩ := h2; exact ⟨vs, k1, k2, k3, nn _ k4⟩
    | _ => exact h2.elim
  | slf c ns ds =>
    obtain ⟨b, dx, fs, h1, k1, k2, k3, k4, k5, k6⟩ := c
    exact ⟨b, dx, fs, h1, k1, k2, k3, k4, nn _ k5, k6⟩
/-- an object outside of what the frame has and shares is written -/
theorem Sep.other (S : Sep T B G H ios env σ) {a : Addr} {o : HO} (hg : G a = none) (hb : B a = none) (n : ∀ i, ¬ OwnAt env σ i a) : Sep T B G (upd H a o) ios env σ := by
  have ne : ∀ (i : Nat) (e : Ent) (b : Addr), env[i]? = some e → e.mine = true → σ[i]? = some (some (V.ref b)) → b ≠ a := fun i e b q m z w => n i ⟨⟨e, q, m⟩, by rw [← w]; exact z⟩
  have sm : ∀ {Z : Hp}, Same Z H → Z a = none → Same Z (upd H a o) := fun {Z} s z b u e => by rw [upd_ne (ne_of_none e z)]; exact s b u e
  refine ⟨S.len, sm S.gh hg, sm S.bh hb, fun i e q => ?_, S.apart, S.hd⟩
  have c := S.ent i e q
  cases e with
  | no => trivial
  | sh d => exact c
  | own d =>
    obtain ⟨b, h1, h2⟩ := c
    refine ⟨b, h1, ?_⟩
    cases d with
    | lst ds => obtain ⟨vs, k1, k2⟩ := h2; exact ⟨vs, by rw [upd_ne (ne i _ b q rfl h1)]; exact k1, k2⟩
    | _ => exact h2.elim
  | io d =>
    obtain ⟨b, h1, h2, h3⟩ := c
    refine ⟨b, h1, ?_, h3⟩
    cases d with
    | lst ds => obtain ⟨vs, k1, k2⟩ := h2; exact ⟨vs, by rw [upd_ne (ne i _ b q rfl h1)]; exact k1, k2⟩
    | _ => exact h2.elim
  | slf c ns ds =>
    obtain ⟨b, dx, fs, h1, k1, k2⟩ := c
    exact ⟨b, dx, fs, h1, by rw [upd_ne (ne i _ b q rfl h1)]; exact k1, k2⟩
end
end Ev
namespace Ev
open PySem PySem.Spec L2

theorem back_own {outer inner env : List Ent} {σ : L2.St} {vs : List Nat} {j : Nat} {a : Addr} (hl : env.length = inner.length) (h : backE outer inner vs = some env) (o : OwnAt env σ j a) : OwnAt inner (L2.wipe σ vs) j a := by
  obtain ⟨⟨e, h1, h2⟩, h3⟩ := o
  by_cases w : j ∈ vs
  · have hj : j < inner.length := by rw [← hl]; exact (List.getElem?_eq_some_iff.mp h1).1
    obtain ⟨q1, q2⟩ := backE_in h w hj
    rw [q1] at h1
    rcases q2 with q2 | ⟨d, q2⟩
    · rw [q2] at h1; cases h1; cases h2
    · rw [q2] at h1; cases h1; cases h2
  · rw [backE_out h w] at h1
    exact ⟨⟨e, h1, h2⟩, by rw [wipe_get w]; exact h3⟩
theorem wipeE_own {env : List Ent} {σ : L2.St} : ∀ {vs : List Nat} {j : Nat} {a : Addr}, OwnAt (wipeE env vs) (L2.wipe σ vs) j a → OwnAt env σ j a
  | [], j, a, h => h
  | v :: vs, j, a, h => by
    unfold wipeE L2.wipe at h
    obtain ⟨⟨e, h1, h2⟩, h3⟩ := h
    by_cases w : j = v
    · subst w
      by_cases hj : j < (wipeE env vs).length
      · rw [List.getElem?_set_self hj] at h1; cases h1; cases h2
      · rw [List.getElem?_eq_none (by rw [List.length_set]; omega)] at h1; cases h1
    · rw [List.getElem?_set_ne (Ne.symm w)] at h1 h3
      exact wipeE_own ⟨⟨e, h1, h2⟩, h3⟩

/-- a clause's tests -/
structure SIf (X : Cx) (c : Tc) (E : XK) (p : Bool) (ifs : List Expr) (f : FT) : Prop where
  run : PTs X ifs (rdT (tb X c) E p f)
theorem PTs.weak {X : Cx} {e : List Expr} {t t' : TT} (h : PTs X e t) (w : ∀ σ H Q, t' σ H Q → t σ H Q) : PTs X e t' := ⟨fun pins s σ H Q I q => h.run pins s σ H Q I (w σ H Q q)⟩
def yesT : FT := fun env => some (.ok true env)
section
variable {X : Cx} {c : Tc} {E : XK} {p : Bool} {e : Expr} {f : FT}
theorem sif_nil : SIf X c E true [] yesT := ⟨PTs.weak pts_nil fun σ H Q h => by
  obtain ⟨B, G, ios, env, S, h⟩ := h
  exact h G H S (Same.refl G) fun _ => Same.refl H⟩
theorem sif_one (h : ST X c E p e f) : SIf X c E p [e] f := ⟨pts_one h.run⟩
end

section
variable {X : Cx} {c : Tc} {E : XK} {pos : Pos} {tg iter elt : Expr} {ifs : List Expr} {scope : Scope} {own : List (Str × Nat)} {ns : List Nat} {p q r : Bool} {it : FI} {g : FG} {tt : FT} {fe : F}
theorem lc_core' {σ : L2.St} {H : Hp} {Q : VK} (hsub : ∀ i ∈ ns, i ∈ own.map (·.2)) (h : rd (tb X c) E (p && (q && r)) (compF (q && r) (own.map (·.2)) it g tt fe) σ H Q) :
    tLc (rdI (tb X c) E p it) (rdG (tb X c) ns g) (rdT (tb X c) E0 q tt) (rd (tb X c) E0 r fe) (own.map (·.2)) σ H Q := by
  obtain ⟨B, G, ios, env, S, h⟩ := h
  refine ⟨B, G, ios, env, S, ?_⟩
  generalize hvs : own.map (·.2) = vs at *
  unfold compF at h
  cases k0 : it env with
  | none => rw [k0] at h; exact h.elim
  | some u => cases u with
    | ex c => rw [k0] at h; exact fun H' o sb sp => h H' o sb fun z => sp (Bool.and_eq_true_iff.mp z).1
    | ok ops ds e =>
      rw [k0] at h
      dsimp only at h
      intro G1 H1 J S1 sg1 sp1 hJ Dn hD
      cases k1 : (if (q && r) = true then some e else frz e ops) with
      | none => rw [k1] at h; exact h.elim
      | some e1 =>
        rw [k1] at h
        dsimp only at h
        by_cases hlen : ds.length ≤ 1000000
        · rw [if_pos hlen] at h
          cases k2 : compL g tt fe vs ds (wipeE e1 vs) [] with
          | none => rw [k2] at h; exact h.elim
          | some u2 =>
            obtain ⟨accF, einF⟩ := u2
            rw [k2] at h
            dsimp only at h
            cases k3 : backE e1 einF vs with
            | none => rw [k3] at h; exact h.elim
            | some e2 =>
              rw [k3] at h
              dsimp only at h
              -- the frame ahead of the loop, and what the iterator leans on
              have pre : ∃ G2 Fr, Sep (tb X c) B G2 H1 ios e1 σ ∧ Same G1 G2 ∧ ItOk (tb X c) J Fr G1 ds ∧ Same Fr H1 ∧ ((q && r) = true ∨ Same Fr G2) := by
                by_cases hq : (q && r) = true
                · rw [if_pos hq] at k1
                  cases k1
                  exact ⟨G1, H1, S1, Same.refl _, hJ H1 S1.gh (fun _ _ _ _ => rfl), Same.refl _, .inl hq⟩
                · rw [if_neg hq] at k1
                  obtain ⟨G2, S2, sg2, h2⟩ := S1.frz k1
                  exact ⟨G2, G2, S2, sg2, hJ G2 sg2 (fun i hi a o => h2 i hi a o), S2.gh, .inr (Same.refl _)⟩
              obtain ⟨G2, Fr, S2, sg12, IT, sF1, hF⟩ := pre
              have bD : B Dn = none := none_of_same S1.bh hD
              have gD : G2 Dn = none := none_of_same S2.gh hD
              refine ⟨fun i m H => m = ds.length - i ∧ i ≤ ds.length ∧ ∃ Gc ec acc vs', Sep (tb X c) B Gc H ios ec (L2.wipe σ vs) ∧ Same G2 Gc ∧ Same Fr H ∧ ((q && r) = true → Same H1 H) ∧ H Dn = some (.lst vs') ∧ Reps (tb X c) Gc acc vs' ∧ Gc Dn = none ∧
                (∀ j, ¬ OwnAt ec (L2.wipe σ vs) j Dn) ∧ acc.length ≤ i ∧ compL g tt fe vs (ds.drop i) ec acc = some (accF, einF), ⟨ds.length, by simp, Nat.zero_le _, G2, wipeE e1 vs, [], [], ?_⟩, ?_⟩
              · have n0 : ∀ j, ¬ OwnAt (wipeE e1 vs) (L2.wipe σ vs) j Dn := fun j o => by
                  obtain ⟨_, _, ob, ho⟩ := S2.own (wipeE_own o)
                  rw [hD] at ho; cases ho
                exact ⟨(S2.wipe vs).other gD bD n0, Same.refl _, sF1.trans (same_upd hD), fun _ => same_upd hD, upd_same, rfl, gD, n0, Nat.le_refl _, by simpa using k2⟩
              · rintro i m H3 ⟨rfl, hi, Gc, ec, acc, vs', Sc, sgc, sF, spH, hDn, rac, gDn, nDn, hac, hcomp⟩
                by_cases hlt : i < ds.length
                · right
                  refine ⟨IT.go i H3 hlt sF, fun H' => i < ds.length ∧ ∃ Gc ec acc vs', Sep (tb X c) B Gc H' ios ec (L2.wipe σ vs) ∧ Same G2 Gc ∧ Same Fr H' ∧ ((q && r) = true → Same H1 H') ∧ H' Dn = some (.lst vs') ∧ Reps (tb X c) Gc acc vs' ∧ Gc Dn = none ∧
                    (∀ j, ¬ OwnAt ec (L2.wipe σ vs) j Dn) ∧ acc.length ≤ i + 1 ∧ compL g tt fe vs (ds.drop (i + 1)) ec acc = some (accF, einF), fun H' ⟨h1, h2⟩ => ⟨ds.length - (i + 1), by omega, rfl, by omega, h2⟩, fun x H4 y => ?_⟩
                  have hd : ds[i]? = some ds[i] := by simp [hlt]
                  obtain ⟨sh, Gy, gy1, gy2, gy3, ry⟩ := IT.yld i H3 x H4 ds[i] sF y hd
                  rw [List.drop_eq_getElem_cons hlt] at hcomp
                  have Sh := Sc.hold hDn gDn nDn
                  obtain ⟨Gj, Sj, sgj, ryj, _⟩ := Sh.join (sg12.trans sgc) sh gy1 gy2 gy3 ry
                  have hcomp : (match g ds[i] ec with
                    | none => none
                    | some e1 => match tt e1 with
                      | some (.ok false e2) => compL g tt fe vs (ds.drop (i + 1)) (wipeE e2 vs) acc
                      | some (.ok true e2) => match fe e2 with
                        | some (.ok r e3) => match store e3 r with
                          | some (y, e4) => compL g tt fe vs (ds.drop (i + 1)) (wipeE e4 vs) (acc ++ [y])
                          | none => none
                        | _ => none
                      | _ => none) = some (accF, einF) := hcomp
                  refine ⟨upd B Dn (.lst vs'), Gj, _, ec, ds[i], Sj, ryj, ?_⟩
                  cases q1 : g ds[i] ec with
                  | none => rw [q1] at hcomp; cases hcomp
                  | some ea =>
                    rw [q1] at hcomp
                    dsimp only at hcomp ⊢
                    intro Ga σa Sa sga aga
                    have hw : L2.wipe σa vs = L2.wipe σ vs := wipe_agree aga (fun i hi => hsub i hi)
                    refine ⟨hw, upd B Dn (.lst vs'), Ga, _, ea, Sa, ?_⟩
                    have sBu : Same B (upd B Dn (.lst vs')) := same_upd bD
                    -- how a turn ends
                    have fin : ∀ {Gz Hz : Hp} {ez : List Ent} {acc' : List D} {ws : List V} {Hn : Hp}, Sep (tb X c) (upd B Dn (.lst vs')) Gz Hz ⟨ios.io, fun b => b = Dn ∨ ios.hs b⟩ ez σa → Same Ga Gz → ((q && r) = true → Same H4 Hz) → Hn = upd Hz Dn (.lst ws) → Reps (tb X c) Gz acc' ws → acc'.length ≤ i + 1 →
                        compL g tt fe vs (ds.drop (i + 1)) (wipeE ez vs) acc' = some (accF, einF) → (i < ds.length ∧ ∃ Gc ec acc vs', Sep (tb X c) B Gc Hn ios ec (L2.wipe σ vs) ∧ Same G2 Gc ∧ Same Fr Hn ∧ ((q && r) = true → Same H1 Hn) ∧ Hn Dn = some (.lst vs') ∧ Reps (tb X c) Gc acc vs' ∧ Gc Dn = none ∧
                    (∀ j, ¬ OwnAt ec (L2.wipe σ vs) j Dn) ∧ acc.length ≤ i + 1 ∧ compL g tt fe vs (ds.drop (i + 1)) ec acc = some (accF, einF)) := fun {Gz Hz ez acc' ws Hn} Sz sgz spz hn rz hl hc => by
                      subst hn
                      have Sw := Sz.wipe vs
                      rw [hw] at Sw
                      have gz : Gz Dn = none := (Sz.hd Dn (Or.inl rfl)).1
                      have nz : ∀ j, ¬ OwnAt (wipeE ez vs) (L2.wipe σ vs) j Dn := fun j o => by
                        have := (Sw.own o).2.1
                        rw [upd_same] at this; cases this
                      have Su : Sep (tb X c) B Gz Hz ios (wipeE ez vs) (L2.wipe σ vs) := Sw.unhold sBu fun a ha => ⟨Or.inr ha, (Sc.hd a ha).2⟩
                      have sgz' : Same G2 Gz := ((sgc.trans sgj).trans sga).trans sgz
                      have frD : Fr Dn = none := none_of_same sF1 hD
                      refine ⟨hlt, Gz, wipeE ez vs, acc', ws, Su.other gz bD nz, sgz', ?_, fun hq => ?_, upd_same, rz, gz, nz, hl, hc⟩
                      · intro a o ho
                        rw [upd_ne (ne_of_none ho frD)]
                        rcases hF with hq | hF
                        · exact spz hq a o (sh a o (sF a o ho))
                        · exact Sz.gh a o (sgz' a o (hF a o ho))
                      · intro a o ho
                        rw [upd_ne (ne_of_none ho hD)]
                        exact spz hq a o (sh a o (spH hq a o ho))
                    cases q2 : tt ea with
                    | none => rw [q2] at hcomp; cases hcomp
                    | some ut =>
                      rw [q2] at hcomp
                      cases ut with
                      | ex c => cases hcomp
                      | ok b eb =>
                        intro Gb Hb Sb sgb spb
                        have sgab : Same Ga Gb := sgb
                        cases b with
                        | false =>
                          rw [if_neg Bool.false_ne_true]
                          dsimp only at hcomp
                          have hDb : Hb Dn = some (.lst vs') := Sb.bh Dn _ upd_same
                          have e0 : Hb = upd Hb Dn (.lst vs') := by
                            funext a
                            by_cases e : a = Dn
                            · subst e; rw [upd_same, hDb]
                            · rw [upd_ne e]
                          exact fin Sb sgab (fun hq => spb (Bool.and_eq_true_iff.mp hq).1) e0 (Reps.mono (((sgj.trans sga).trans sgb)) rac) (by omega) hcomp
                        | true =>
                          rw [if_pos rfl]
                          dsimp only at hcomp
                          refine ⟨upd B Dn (.lst vs'), Gb, _, eb, Sb, ?_⟩
                          cases q3 : fe eb with
                          | none => rw [q3] at hcomp; cases hcomp
                          | some uf =>
                            rw [q3] at hcomp
                            cases uf with
                            | ex c => cases hcomp
                            | ok rr ed =>
                              intro Gd Hd vd Sd sgd spd Vd
                              dsimp only at hcomp
                              cases q4 : store ed rr with
                              | none => rw [q4] at hcomp; cases hcomp
                              | some us =>
                                obtain ⟨yy, ee⟩ := us
                                rw [q4] at hcomp
                                dsimp only at hcomp
                                obtain ⟨Gn, Sn, sgn, Vn⟩ := Vd.opd Sd
                                have q4' : store ed rr.norm = some (yy, ee) := by
                                  cases rr with
                                  | fr d => exact q4
                                  | sh d => exact q4
                                  | vr i => exact q4
                                obtain ⟨Ge, Se, sge, re⟩ := Sn.store Vn q4'
                                have hDd : Hd Dn = some (.lst vs') := Se.bh Dn _ upd_same
                                have rall : Reps (tb X c) Ge acc vs' := Reps.mono ((((sgj.trans sga).trans sgb).trans sgd).trans (sgn.trans sge)) rac
                                have rapp : ∀ {ds : List D} {vs : List V}, Reps (tb X c) Ge ds vs → Reps (tb X c) Ge (ds ++ [yy]) (vs ++ [vd]) := by
                                  intro ds
                                  induction ds with
                                  | nil =>
                                    intro vs hh
                                    have : vs = [] := by simpa [Reps] using hh
                                    subst this
                                    exact ⟨vd, [], rfl, re, rfl⟩
                                  | cons d ds ih =>
                                    intro vs hh
                                    simp only [Reps] at hh
                                    obtain ⟨v, rr, e, h1, h2⟩ := hh
                                    subst e
                                    exact ⟨v, rr ++ [vd], rfl, h1, ih h2⟩
                                refine ⟨vs', hDd, ?_, ?_⟩
                                · have l1 : vs'.length = acc.length := Reps.length rac
                                  have l2 : sizeLine = 16777216 := sizeLine_eq
                                  omega
                                · exact fin Se ((sgab.trans sgd).trans (sgn.trans sge)) (fun hq => (spb (Bool.and_eq_true_iff.mp hq).1).trans (spd (Bool.and_eq_true_iff.mp hq).2)) rfl (rapp rall) (by rw [List.length_append]; simp; omega) hcomp
                · left
                  have e : i = ds.length := by omega
                  subst e
                  refine ⟨IT.stop H3 sF, ?_⟩
                  rw [List.drop_length] at hcomp
                  have hcomp : some (acc, ec) = some (accF, einF) := hcomp
                  cases hcomp
                  have Sf : Sep (tb X c) B Gc H3 ios e2 σ := Sep.back S2 Sc sgc k3
                  refine h Gc H3 (.ref Dn) Sf ((sg1.trans sg12).trans sgc) (fun z => (sp1 (Bool.and_eq_true_iff.mp z).1).trans (spH (Bool.and_eq_true_iff.mp z).2)) ⟨Dn, rfl, ⟨vs', hDn, rac, gDn, bD⟩, fun j o => nDn j (back_own (backE_length k3) k3 o)⟩
        · rw [if_neg hlen] at h; exact h.elim
theorem se_lc (hc : X.calm = true) (nd : X.N.Nodup) (ok : BlkOk X.N X.env.scope scope own) (hi : SI X c E p tg iter it) (hsub : ∀ i ∈ ns, i ∈ own.map (·.2))
    (hg : ∀ (s : Shared) (H : Hp) (C : Addr) (cl : List (Str × Addr)) (fp : List Addr), SG (X.blk s H scope (compEnvC scope cl C X.env) fp) c ns tg g)
    (ht : ∀ (s : Shared) (H : Hp) (C : Addr) (cl : List (Str × Addr)) (fp : List Addr), SIf (X.blk s H scope (compEnvC scope cl C X.env) fp) c E0 q ifs tt)
    (he : ∀ (s : Shared) (H : Hp) (C : Addr) (cl : List (Str × Addr)) (fp : List Addr), SE (X.blk s H scope (compEnvC scope cl C X.env) fp) c E0 r elt fe) (hs : ∀ x, foldedSetIterable iter X.env x = pure x := by intro _; rfl) :
    SE X c E (p && (q && r)) (.ListComp elt [⟨tg, iter, ifs, 0⟩] scope pos) (compF (q && r) (own.map (·.2)) it g tt fe) :=
  ⟨PE.weak (pe_lc hc nd hi.run ok (fun s H C cl fp => (hg s H C cl fp).run) (fun s H C cl fp => (ht s H C cl fp).run) (fun s H C cl fp => (he s H C cl fp).run) hs) fun _ _ _ h => lc_core' hsub h⟩
/-- name = [..] on one line -/
theorem ss_setLc {i : Nat} {y : Str} {py spos : Pos} (hc : X.calm = true) (nd : X.N.Nodup) (ok : BlkOk X.N X.env.scope scope own) (hi : SI X c E p tg iter it) (hsub : ∀ i ∈ ns, i ∈ own.map (·.2))
    (hg : ∀ (s : Shared) (H : Hp) (C : Addr) (cl : List (Str × Addr)) (fp : List Addr), SG (X.blk s H scope (compEnvC scope cl C X.env) fp) c ns tg g)
    (ht : ∀ (s : Shared) (H : Hp) (C : Addr) (cl : List (Str × Addr)) (fp : List Addr), SIf (X.blk s H scope (compEnvC scope cl C X.env) fp) c E0 q ifs tt)
    (he : ∀ (s : Shared) (H : Hp) (C : Addr) (cl : List (Str × Addr)) (fp : List Addr), SE (X.blk s H scope (compEnvC scope cl C X.env) fp) c E0 r elt fe)
    (hsw : swapsWith (.ListComp elt [⟨tg, iter, ifs, 0⟩] scope pos) (some (.Name y py)) spos.line X.env = pure true)
    (hy : X.N[i]? = some y := by rfl) (hyl : X.env.scope.names.lookup y = some .local := by rfl) (hs : ∀ x, foldedSetIterable iter X.env x = pure x := by intro _; rfl) :
    SS X c E (.Assign [.Name y py] (.ListComp elt [⟨tg, iter, ifs, 0⟩] scope pos) spos) (setF i (compF (q && r) (own.map (·.2)) it g tt fe)) :=
  ss_set_of (ps_setLc hc nd hy hyl hsw hi.run ok (fun s H C cl fp => (hg s H C cl fp).run) (fun s H C cl fp => (ht s H C cl fp).run) (fun s H C cl fp => (he s H C cl fp).run) hs) fun _ _ _ h => lc_core' hsub h
end
end Ev
namespace Ev
open PySem PySem.Spec L2

/-! ### a def's promise -/
def ini (n : Nat) (ds : List D) : List Ent := ds.map .sh ++ List.replicate (n - ds.length) .no
def fin (e : List Ent) : Val → Option Val
  | .vr i => match e[i]? with
    | some (.own d) => some (.fr d)
    | some (.sh d) => some (.sh d)
    | _ => none
  | r => some r
def runF (np n : Nat) (g : FS) : Fn := fun ds => if ds.length = np then match g (ini n ds) with
    | some (.nx _) => some (.ok (.sh .non))
    | some (.rt r e) => (fin e r).map .ok
    | some (.ex c) => some (.ex c)
    | _ => none
  else none
theorem spP_imp {T : Tb} {f f' : Fn} (h : ∀ ds r, f' ds = some r → f ds = some r) {vs : List V} {H : Hp} {Q : VK} {E : XK} (s : spP T f' vs H Q E) : spP T f vs H Q E := by
  obtain ⟨G, ds, sg, rp, k⟩ := s
  refine ⟨G, ds, sg, rp, ?_⟩
  cases q : f' ds with
  | none => rw [q] at k; exact k.elim
  | some r => rw [q] at k; rw [h ds r q]; exact k
theorem map_get {α β : Type} {f : α → β} {l : List α} {i : Nat} {b : β} (h : (l.map f)[i]? = some b) : ∃ a, l[i]? = some a ∧ b = f a := by
  rw [List.getElem?_map] at h
  cases q : l[i]? with
  | none => rw [q] at h; cases h
  | some a => rw [q] at h; cases h; exact ⟨a, rfl, rfl⟩
theorem Reps.at' {T : Tb} {G : Hp} : ∀ {ds : List D} {vs : List V} {i : Nat} {d : D}, Reps T G ds vs → ds[i]? = some d → ∃ v, vs[i]? = some v ∧ Rep T G d v
  | [], _, i, d, _, h => by simp at h
  | d0 :: ds, vs, i, d, r, h => by
    simp only [Reps] at r
    obtain ⟨v0, r0, e, r1, r2⟩ := r
    subst e
    cases i with
    | zero => simp at h; subst h; exact ⟨v0, by simp, r1⟩
    | succ i =>
      obtain ⟨v, h1, h2⟩ := Reps.at' r2 (i := i) (by simpa using h)
      exact ⟨v, by simpa using h1, h2⟩
theorem sep_ini {T : Tb} {G H : Hp} {N : List Str} {ds : List D} {vs : List V} (sg : Same G H) (r : Reps T G ds vs) (hl : ds.length ≤ N.length) : Sep T H G H ⟨[], fun a => H a ≠ none ∧ G a = none⟩ (ini N.length ds) (start N vs) := by
  have hv := Reps.length r
  have no : ∀ j a, ¬ OwnAt (ini N.length ds) (start N vs) j a := fun j a o => by
    obtain ⟨⟨e, h1, h2⟩, _⟩ := o
    unfold ini at h1
    by_cases w : j < ds.length
    · rw [List.getElem?_append_left (by simpa using w)] at h1
      obtain ⟨d, _, e'⟩ := map_get h1
      subst e'; cases h2
    · rw [List.getElem?_append_right (by simp; omega)] at h1
      have := List.mem_of_getElem? h1
      rw [List.mem_replicate] at this
      rw [this.2] at h2; cases h2
  refine ⟨?_, sg, Same.refl H, fun i e h => ?_, fun i j a _ o _ => no i a o, fun a ha => ⟨ha.2, ?_⟩⟩
  · unfold ini L2.start
    simp only [List.length_append, List.length_map, List.length_replicate]
    omega
  · unfold ini at h
    by_cases w : i < ds.length
    · rw [List.getElem?_append_left (by simpa using w)] at h
      obtain ⟨d, h1, e'⟩ := map_get h
      subst e'
      obtain ⟨v, h2, h3⟩ := Reps.at' r h1
      refine ⟨v, ?_, h3⟩
      unfold L2.start
      rw [List.getElem?_append_left (by simp; omega), List.getElem?_map, h2]
      rfl
    · rw [List.getElem?_append_right (by simp; omega)] at h
      have := List.mem_of_getElem? h
      rw [List.mem_replicate] at this
      rw [this.2]; trivial
  · cases q : H a with
    | none => exact absurd q ha.1
    | some o => exact ⟨o, rfl⟩
theorem Sep.gr {T : Tb} {G G' H H' : Hp} {env : List Ent} {σ : L2.St} (S : Sep T H G' H' ⟨[], fun a => H a ≠ none ∧ G a = none⟩ env σ) (sg : Same G G') : Grow G H G' H' :=
  ⟨sg, S.gh, S.bh, fun a h g => (S.hd a ⟨h, g⟩).1⟩
section
variable {P : Program} {w : World} {K : PySem.W.Frag} {mg : Str → Option Value} {base : Heap} {c : Tc}
theorem body_core {X : Cx} {E : XK} {N : List Str} {np : Nat} {body : List Stmt} {g : FS} {vs : List V} {H : Hp} {Q : VK} (hp : np ≤ N.length) (hb : SSs X c E body g) (hsp : spP (tb X c) (runF np N.length g) vs H Q E) :
    ∃ t, PSs X body t ∧ t { nx := fun _ H' => Q .non H', rt := Q } (start N vs) H := by
  refine ⟨_, hb.run, ?_⟩
  obtain ⟨G, ds, sg, rp, k⟩ := hsp
  unfold runF at k
  by_cases hl : ds.length = np
  · rw [if_pos hl] at k
    have S := sep_ini (N := N) sg rp (by omega)
    refine ⟨H, G, _, _, S, ?_⟩
    cases q : g (ini N.length ds) with
    | none => rw [q] at k; exact k.elim
    | some o =>
      rw [q] at k
      cases o with
      | bk e => exact k.elim
      | ct e => exact k.elim
      | ex c => exact fun H' o sb => k H' o sb
      | nx e => exact fun G' H' σ' S' sg' => k G' H' .non (S'.gr sg') (by show Rep _ _ _ _; simp [Rep])
      | rt r e =>
        intro G' H' σ' v S' sg' V
        have gr := S'.gr sg'
        have cell : ∀ {a : Addr} {d : D}, Cell (tb X c) H G' H' a d → v = .ref a → ResOk (tb X c) G' H H' v (.fr d) := fun {a d} h e => by
          cases d with
          | lst ds =>
            obtain ⟨ws, h1, h2, h3, h4⟩ := h
            exact ⟨a, ws, e, h4, h3, h1, h2⟩
          | _ => exact h.elim
        cases r with
        | sh d => exact k G' H' v gr V
        | fr d =>
          obtain ⟨a, h1, h2, _⟩ := V
          exact k G' H' v gr (cell h2 h1)
        | vr i =>
          obtain ⟨hσ, d, hd⟩ := V
          dsimp only [fin] at k
          rcases hd with hd | hd
          · simp only [hd] at k
            obtain ⟨a, h1, h2⟩ := S'.ent i _ hd
            rw [hσ] at h1; cases h1
            exact k G' H' _ gr (cell h2 rfl)
          · simp only [hd] at k; exact k.elim
  · rw [if_neg hl] at k; exact k.elim
/-- THE RULE for a def -/
theorem fn_ok {x qual : Str} {pa : Arguments} {bd : List Stmt} {sc : Scope} {dvs : List V} {kws : List (Str × V)} {f : Addr} {fd : FuncData} {N ps : List Str} {k : Nat} {g : FS} {f' : Fn} (F : FunD K x qual pa bd sc dvs kws f fd) (S : FnScope N ps sc) (hN : ps.length ≤ N.length)
    (hb : ∀ (cdv : Value) (A : Around) (outer : List Env) (s : Shared) (H : Hp) (E : XK), Cxt (cxOf (L2.CX P w) P w K mg base N qual sc f cdv A outer s H E) E k →
      SSs (cxOf (L2.CX P w) P w K mg base N qual sc f cdv A outer s H E) c E bd g)
    (hm : ∀ ds r, f' ds = some r → runF ps.length N.length g ds = some r) : FnG P w K mg base (L2.CX P w) (k + 1) f fd ps (spP ⟨K, c.ct, c.xc⟩ f') := by
  obtain ⟨oc, od, dV, kV, doc, pm, an, cdv, ct, osl, rfl, lk, hcd, _, _⟩ := F.ex
  refine fnG_of lk hcd S (fun vs H Q E h => ?_) fun A gd outer s H vs Q E hr h => ?_
  · obtain ⟨G, ds, sg, rp, q⟩ := spP_imp hm h
    unfold runF at q
    by_cases hl : ds.length = ps.length
    · rw [Reps.length rp, hl]
    · rw [if_neg hl] at q; exact q.elim
  · refine body_core hN (hb cdv A outer s H E ⟨rfl, S.nd, passes_call (takes_of rfl rfl rfl rfl) (fun _ _ _ _ h => h), hr, gd⟩) ?_
    exact spP_imp hm h
theorem own_pass {N : List Str} {qual : Str} {sc : Scope} {f : Addr} {cdv : Value} {A : Around} {outer : List Env} {s : Shared} {H : Hp} {E : XK} :
    PassesOwn (model P w) (cxOf (L2.CX P w) P w K mg base N qual sc f cdv A outer s H E).A (cxOf (L2.CX P w) P w K mg base N qual sc f cdv A outer s H E).env (cxOf (L2.CX P w) P w K mg base N qual sc f cdv A outer s H E).xe :=
  passes_of (X := cxOf (L2.CX P w) P w K mg base N qual sc f cdv A outer s H E) rfl
/-- inside a comprehension -/
theorem Cxt.blk {X : Cx} {E : XK} {k : Nat} (C : Cxt X E k) {s : Shared} {H : Hp} {scope : Scope} {ce : Env} {fp : List Addr} : Cxt (X.blk s H scope ce fp) E0 k := ⟨C.calm, C.nd, passL, C.room, C.gd⟩
theorem Fnd.mono {j k : Nat} {x : Str} {sp : Sp} (F : Fnd P w K mg base j x sp) (h : j ≤ k) : Fnd P w K mg base k x sp := by
  obtain ⟨f, fd, ps, h1, h2⟩ := F.ex
  exact ⟨f, fd, ps, h1.mono h, h2⟩
end
end Ev
/-! t * 1 is t itself -/
namespace Ev
open PySem PySem.Spec L2
open AutoSeq1 (wpAny_loadPart')
theorem tuple_mul1 (l : Addr) (its : Array Value) (n : Nat) (dd : Option Addr) (sl : Array (Option Value)) (u : Tok) :
    Meets (Builtin.«tuple.__mul__» ⟨[.ref l, .int 1 u], []⟩) (fun _ R s => s.heap.get? l = some { cls := .type "tuple", dict := dd, data := .seq its n, slots := sl } ∧ R (.ok (.ret (Value.ref l))) s) :=
  .of_wp fun P w A R s h => by
    obtain ⟨hp, g, d, tk, os⟩ := s
    obtain ⟨hl, h⟩ := h
    have ix := AutoSeq1.idx_int
    have c0 : (decide ((1 : Int) < -(2 ^ 63)) || decide ((1 : Int) ≥ 2 ^ 63)) = false := by decide
    have c1 : (its.isEmpty || (1 : Int) == 1) = true := by simp
    wp_walk using wpAny_loadPart' hl
    repeat (first
      | (refine wpAny_ite_false (decide_eq_false (by rw [c0]; exact Bool.false_ne_true)) ?_; wp_walk using wpAny_loadPart' hl)
      | (refine wpAny_ite_true (by simp) ?_; wp_walk using wpAny_loadPart' hl))
    exact ⟨_, rfl, h⟩
def rMul1 (K : PySem.W.Frag) : R2 := fun x y H Q => ∃ l xs, x = .ref l ∧ y = .int 1 ∧ SqT K H l xs ∧ Q (.ref l) H
theorem op_mul1 {X : Cx} : OpR X (binaryOp .Mult) (rMul1 X.K) := by
  intro pins s σ H x y v u Q I rx ry h
  obtain ⟨l, xs, rfl, rfl, hT, q⟩ := h
  cases rx
  obtain ⟨t, rfl⟩ := ry
  obtain ⟨its, r, ⟨⟨cls, dd, data, sl⟩, ho, hc, n, hd⟩, hs⟩ := I.tuple hT
  simp only at hc hd
  subst hc hd
  refine wpAny_binaryOp_repeat_ref (T := "tuple") (U := "int") (by decide) ⟨_, ho, rfl⟩ (fun s' => typeIs_int s' 1 t) noFill_tuple_mul F.fills_int_mul F.slot_int_rmul repeat_tuple F.slot_int_index.lookup
    (call_meets F.slot_int_rmul (typeIs_int s 1 t) F.entry_int_rmul (F.args_int_rmul_2 _ _) (int_rmul_tuple 1 t l its.toArray n dd sl) ⟨ho, rfl, ⟨_, ho, rfl⟩, call_meets F.slot_tuple_mul ⟨_, ho, rfl⟩ F.entry_tuple_mul (F.args_tuple_mul_2 _ _) (tuple_mul1 l its.toArray n dd sl t) ⟨ho, ?_⟩⟩)
  exact ⟨.ref l, H, I, rfl, q⟩
end Ev
namespace Ev
open PySem PySem.Spec L2

/-! ### data for the library's rules -/
mutual
def toPy : D → Option PyData
  | .non => some .none
  | .bl b => some (.bool b)
  | .int i => some (.int i)
  | .str x => if PyData.strOk x = true then some (.str x) else none
  | .tup ds => (toPys ds).map .tuple
  | .lst ds => (toPys ds).map .list
  | _ => none
def toPys : List D → Option (List PyData)
  | [] => some []
  | d :: ds => match toPy d, toPys ds with
    | some p, some ps => some (p :: ps)
    | _, _ => none
end
section
variable {T : Tb} {G H : Hp}
mutual
theorem Rep.dp : ∀ {d : D} {v : V} {p : PyData}, Rep T H d v → toPy d = some p → Dp T.K H v p
  | .non, v, p, r, h => by simp only [Rep] at r; subst r; cases h; exact .non
  | .bl b, v, p, r, h => by simp only [Rep] at r; subst r; cases h; exact .bl b
  | .int i, v, p, r, h => by simp only [Rep] at r; subst r; cases h; exact .int i
  | .str x, v, p, r, h => by
    simp only [Rep] at r; subst r
    simp only [toPy] at h
    split at h
    · cases h; exact .str x
    · cases h
  | .tup ds, v, p, r, h => by
    simp only [Rep] at r
    obtain ⟨a, vs, rfl, h1, h2⟩ := r
    simp only [toPy] at h
    cases k : toPys ds with
    | none => rw [k] at h; cases h
    | some ps => rw [k] at h; cases h; exact .tup h1 (Reps.dp h2 k)
  | .lst ds, v, p, r, h => by
    simp only [Rep] at r
    obtain ⟨a, vs, rfl, h1, h2⟩ := r
    simp only [toPy] at h
    cases k : toPys ds with
    | none => rw [k] at h; cases h
    | some ps => rw [k] at h; cases h; exact .lst (SqL.of h1) (Reps.dp h2 k)
  | .ins c ds, v, p, r, h => by simp [toPy] at h
  | .dct a b, v, p, r, h => by simp [toPy] at h
  | .scr a, v, p, r, h => by simp [toPy] at h
theorem Reps.dp : ∀ {ds : List D} {vs : List V} {ps : List PyData}, Reps T H ds vs → toPys ds = some ps → DpAll T.K H vs ps
  | [], vs, ps, r, h => by
    have : vs = [] := by simpa [Reps] using r
    subst this
    simp only [toPys] at h
    cases h; exact .nil
  | d :: ds, vs, ps, r, h => by
    simp only [Reps] at r
    obtain ⟨v, vr, rfl, h1, h2⟩ := r
    simp only [toPys] at h
    cases k : toPy d with
    | none => simp only [k] at h; cases h
    | some p =>
      cases k2 : toPys ds with
      | none => simp only [k, k2] at h; cases h
      | some ps =>
        simp only [k, k2] at h
        cases h
        exact .cons (Rep.dp h1 k) (Reps.dp h2 k2)
end
/-- == -/
def eqD : D → D → Option Bool := fun a b => match toPy a, toPy b with
  | some p, some q => if SeqAt.shaped p = true ∧ SeqAt.shaped q = true then some (PyData.eqv p q) else none
  | _, _ => none
def neD : D → D → Option Bool := fun a b => (eqD a b).map (!·)
end
section
variable {X : Cx} {c : Tc} {k : Nat}
theorem ev_eq (hr : Room k X.A) : OpR X (compareOp .Eq) (rCm (tb X c) eqD) := OpR.weak (op_eqD (by have := hr.units; omega)) fun x y H Q h => by
  obtain ⟨G, dx, dy, b, s, h1, h2, h3, h4⟩ := h
  unfold eqD at h3
  cases k1 : toPy dx with
  | none => simp only [k1] at h3; cases h3
  | some p =>
    cases k2 : toPy dy with
    | none => simp only [k1, k2] at h3; cases h3
    | some q =>
      simp only [k1, k2] at h3
      by_cases hs : SeqAt.shaped p = true ∧ SeqAt.shaped q = true
      · rw [if_pos hs] at h3; cases h3
        exact ⟨p, q, Rep.dp (h1.full s) k1, Rep.dp (h2.full s) k2, hs.1, hs.2, h4 G H (Grow.refl s)⟩
      · rw [if_neg hs] at h3; cases h3
theorem ev_ne (hr : Room k X.A) : OpR X (compareOp .NotEq) (rCm (tb X c) neD) := OpR.weak (op_neD (by have := hr.units; omega)) fun x y H Q h => by
  obtain ⟨G, dx, dy, b, s, h1, h2, h3, h4⟩ := h
  unfold neD eqD at h3
  cases k1 : toPy dx with
  | none => simp only [k1] at h3; cases h3
  | some p =>
    cases k2 : toPy dy with
    | none => simp only [k1, k2] at h3; cases h3
    | some q =>
      simp only [k1, k2] at h3
      by_cases hs : SeqAt.shaped p = true ∧ SeqAt.shaped q = true
      · rw [if_pos hs] at h3; cases h3
        exact ⟨p, q, Rep.dp (h1.full s) k1, Rep.dp (h2.full s) k2, hs.1, hs.2, h4 G H (Grow.refl s)⟩
      · rw [if_neg hs] at h3; cases h3
/-! ints -/
def int2 (f : Int → Int → Option Val) : D → D → Option Val := fun a b => match a, b with
  | .int i, .int j => f i j
  | _, _ => none
def cm2 (f : Int → Int → Bool) : D → D → Option Bool := fun a b => match a, b with
  | .int i, .int j => some (f i j)
  | _, _ => none
theorem cm_of {op : CmpOp} {f : Int → Int → Bool} (h : OpR X (compareOp op) (rI0 fun i j => .bl (f i j))) : OpR X (compareOp op) (rCm (tb X c) (cm2 f)) := OpR.weak h fun x y H Q h => by
  obtain ⟨G, dx, dy, b, s, h1, h2, h3, h4⟩ := h
  cases dx with
  | int i =>
    cases dy with
    | int j => cases h3; rw [h1.int, h2.int]; exact ⟨i, j, rfl, rfl, h4 G H (Grow.refl s)⟩
    | _ => cases h3
  | _ => cases h3
theorem ev_lt : OpR X (compareOp .Lt) (rCm (tb X c) (cm2 fun i j => decide (i < j))) := cm_of op_lt
theorem ev_le : OpR X (compareOp .LtE) (rCm (tb X c) (cm2 fun i j => decide (i ≤ j))) := cm_of op_le
theorem ev_gt : OpR X (compareOp .Gt) (rCm (tb X c) (cm2 fun i j => decide (j < i))) := cm_of op_gt
theorem ev_ge : OpR X (compareOp .GtE) (rCm (tb X c) (cm2 fun i j => decide (j ≤ i))) := cm_of op_ge
theorem rep_int {T : Tb} {G : Hp} {i : Int} : Rep T G (.int i) (.int i) := by simp [Rep]
theorem rep_bl {T : Tb} {G : Hp} {i : Bool} : Rep T G (.bl i) (.bl i) := by simp [Rep]
theorem op2_of {f : Value → Value → Sem Value} {C : Int → Int → Prop} {g : Int → Int → Int} {o : Int → Int → Option Val} (h : OpR X f (rI C fun i j => .int (g i j))) (ho : ∀ i j r, o i j = some r → C i j ∧ r = .sh (.int (g i j))) : OpR X f (rOp (tb X c) (int2 o)) := OpR.weak h fun x y H Q h => by
  obtain ⟨G, dx, dy, r, s, h1, h2, h3, h4⟩ := h
  cases dx with
  | int i =>
    cases dy with
    | int j =>
      obtain ⟨hc, rfl⟩ := ho i j r h3
      rw [h1.int, h2.int]
      exact ⟨i, j, rfl, rfl, hc, h4 G H _ (Grow.refl s) (rep_int (T := tb X c) (G := G))⟩
    | _ => cases h3
  | _ => cases h3
theorem op20_of {f : Value → Value → Sem Value} {g : Int → Int → Int} (h : OpR X f (rI0 fun i j => .int (g i j))) : OpR X f (rOp (tb X c) (int2 fun i j => some (.sh (.int (g i j))))) := OpR.weak h fun x y H Q h => by
  obtain ⟨G, dx, dy, r, s, h1, h2, h3, h4⟩ := h
  cases dx with
  | int i =>
    cases dy with
    | int j => cases h3; rw [h1.int, h2.int]; exact ⟨i, j, rfl, rfl, h4 G H _ (Grow.refl s) (rep_int (T := tb X c) (G := G))⟩
    | _ => cases h3
  | _ => cases h3
def subD : D → D → Option Val := int2 fun i j => some (.sh (.int (i - j)))
theorem ev_sub : OpR X (binaryOp .Sub) (rOp (tb X c) subD) := op20_of op_sub
def fdivD : D → D → Option Val := int2 fun i j => if 0 < j ∧ j < 1073741824 then some (.sh (.int (i / j))) else none
theorem ev_fdiv : OpR X (binaryOp .FloorDiv) (rOp (tb X c) fdivD) := op2_of op_fdiv fun i j r h => by
  split at h
  · cases h; rename_i q; exact ⟨q, rfl⟩
  · cases h
def modD : D → D → Option Val := int2 fun i j => if 0 < j then some (.sh (.int (i % j))) else none
theorem ev_mod : OpR X (binaryOp .Mod) (rOp (tb X c) modD) := op2_of op_mod fun i j r h => by
  split at h
  · cases h; rename_i q; exact ⟨q, rfl⟩
  · cases h
def powD : D → D → Option Val := int2 fun i j => if 0 ≤ j ∧ j ≤ 1000000 ∧ i.natAbs < 18446744073709551616 then some (.sh (.int (i ^ j.toNat))) else none
theorem ev_pow : OpR X (binaryOp .Pow) (rOp (tb X c) powD) := op2_of op_pow fun i j r h => by
  split at h
  · cases h; rename_i q; exact ⟨⟨q.1, q.2.1, by have := q.2.2; omega⟩, rfl⟩
  · cases h
/-! + -/
def addD : D → D → Option Val
  | .int i, .int j => some (.sh (.int (i + j)))
  | .tup xs, .tup ys => if xs.length + ys.length ≤ 1000000 then some (.sh (.tup (xs ++ ys))) else none
  | .lst xs, .lst ys => if xs.length + ys.length ≤ 1000000 then some (.fr (.lst (xs ++ ys))) else none
  | _, _ => none
theorem Reps.app {T : Tb} {G : Hp} : ∀ {ds es : List D} {vs ws : List V}, Reps T G ds vs → Reps T G es ws → Reps T G (ds ++ es) (vs ++ ws)
  | [], es, vs, ws, r, q => by
    have : vs = [] := by simpa [Reps] using r
    subst this; exact q
  | d :: ds, es, vs, ws, r, q => by
    simp only [Reps] at r
    obtain ⟨v, vr, rfl, h1, h2⟩ := r
    exact ⟨v, vr ++ ws, rfl, h1, Reps.app h2 q⟩
theorem million {n : Nat} (h : n ≤ 1000000) : n ≤ sizeLine := by rw [sizeLine_eq]; omega
theorem RepT.tup {T : Tb} {G H : Hp} {ds : List D} {v : V} (h : RepT T G H (.tup ds) v) : ∃ a vs, v = .ref a ∧ SqT T.K G a vs ∧ Reps T G ds vs := by
  rcases h with h | ⟨_, _, _, _, h, _⟩
  · simp only [Rep] at h; exact h
  · cases h
theorem RepT.lst {T : Tb} {G H : Hp} {ds : List D} {v : V} (s : Same G H) (h : RepT T G H (.lst ds) v) : ∃ a vs, v = .ref a ∧ H a = some (.lst vs) ∧ Reps T G ds vs := by
  rcases h with h | ⟨a, vs, es, e, h1, h2, h3⟩
  · simp only [Rep] at h
    obtain ⟨a, vs, e, h1, h2⟩ := h
    exact ⟨a, vs, e, s _ _ h1, h2⟩
  · cases h1; exact ⟨a, vs, e, h2, h3⟩
theorem reps_nil {T : Tb} {G : Hp} {ds : List D} {vs : List V} (r : Reps T G ds vs) : vs = [] ↔ ds = [] := by
  have := Reps.length r
  cases ds <;> cases vs <;> simp_all
theorem rep_of_sqT {T : Tb} {G : Hp} {a : Addr} {ds : List D} {vs : List V} (h : SqT T.K G a vs) (r : Reps T G ds vs) : Rep T G (.tup ds) (.ref a) := by
  simp only [Rep]; exact ⟨a, vs, rfl, h, r⟩
theorem ev_add : OpR X (binaryOp .Add) (rOp (tb X c) addD) := OpR.weak (OpR.or op_add (OpR.or op_catA op_cat)) fun x y H Q h => by
  obtain ⟨G, dx, dy, r, s, h1, h2, h3, h4⟩ := h
  cases dx with
  | int i =>
    cases dy with
    | int j => cases h3; rw [h1.int, h2.int]; exact .inl ⟨i, j, rfl, rfl, h4 G H _ (Grow.refl s) (rep_int (T := tb X c) (G := G))⟩
    | _ => cases h3
  | tup xs =>
    cases dy with
    | tup ys =>
      simp only [addD] at h3
      split at h3
      · cases h3
        rename_i hz
        obtain ⟨a, vs, rfl, a1, a2⟩ := h1.tup
        obtain ⟨b, ws, rfl, b1, b2⟩ := h2.tup
        refine .inr (.inl ⟨a, b, vs, ws, rfl, rfl, Same.sqT (T := tb X c) s a1, Same.sqT (T := tb X c) s b1, by rw [Reps.length a2, Reps.length b2]; exact million hz, fun e => ?_, fun _ e => ?_, fun _ _ p hp => ?_⟩)
        · have := (reps_nil a2).mp e
          subst this
          exact h4 G H _ (Grow.refl s) (rep_of_sqT (T := tb X c) b1 b2)
        · have := (reps_nil b2).mp e
          subst this
          rw [List.append_nil] at h4
          exact h4 G H _ (Grow.refl s) (rep_of_sqT (T := tb X c) a1 a2)
        · obtain ⟨g, ro⟩ := res_tup (T := tb X c) s hp (a2.app b2)
          exact h4 _ _ _ g ro
      · cases h3
    | _ => cases h3
  | lst xs =>
    cases dy with
    | lst ys =>
      simp only [addD] at h3
      split at h3
      · cases h3
        rename_i hz
        obtain ⟨a, vs, rfl, a1, a2⟩ := h1.lst s
        obtain ⟨b, ws, rfl, b1, b2⟩ := h2.lst s
        refine .inr (.inr ⟨a, b, vs, ws, rfl, rfl, a1, b1, by rw [Reps.length a2, Reps.length b2]; exact million hz, fun p hp => ?_⟩)
        obtain ⟨g, ro⟩ := res_lst (T := tb X c) s hp (a2.app b2)
        exact h4 _ _ _ g ro
      · cases h3
    | _ => cases h3
  | _ => cases h3
/-! * -/
def repD (xs : List D) (k : Nat) : List D := (List.replicate k xs).flatten
def mulD : D → D → Option Val
  | .int i, .int j => if (-18446744073709551616 < i ∧ i < 18446744073709551616) ∨ (-18446744073709551616 < j ∧ j < 18446744073709551616) then some (.sh (.int (i * j))) else none
  | .tup xs, .int k => if k = 1 then some (.sh (.tup xs)) else if xs ≠ [] ∧ 2 ≤ k ∧ k ≤ 1000 ∧ xs.length ≤ 1000 then some (.sh (.tup (repD xs k.toNat))) else none
  | .lst xs, .int k => if 0 ≤ k ∧ k ≤ 1000 ∧ xs.length ≤ 1000 then some (.fr (.lst (repD xs k.toNat))) else none
  | _, _ => none
theorem Reps.rep {T : Tb} {G : Hp} {ds : List D} {vs : List V} (r : Reps T G ds vs) : ∀ n : Nat, Reps T G (repD ds n) (List.replicate n vs).flatten
  | 0 => rfl
  | n + 1 => by
    unfold repD
    rw [List.replicate_succ, List.replicate_succ, List.flatten_cons, List.flatten_cons]
    exact r.app (Reps.rep r n)
theorem ev_mul : OpR X (binaryOp .Mult) (rOp (tb X c) mulD) := OpR.weak (OpR.or op_mul (OpR.or (OpR.or op_repT op_mul1) op_rep)) fun x y H Q h => by
  obtain ⟨G, dx, dy, r, s, h1, h2, h3, h4⟩ := h
  cases dx with
  | int i =>
    cases dy with
    | int j =>
      simp only [mulD] at h3
      split at h3
      · cases h3; rename_i hc
        rw [h1.int, h2.int]; exact .inl ⟨i, j, rfl, rfl, (by unfold CMul; omega), h4 G H _ (Grow.refl s) (rep_int (T := tb X c) (G := G))⟩
      · cases h3
    | _ => cases h3
  | tup xs =>
    cases dy with
    | int k =>
      simp only [mulD] at h3
      split at h3
      · rename_i h1k
        subst h1k
        cases h3
        obtain ⟨a, vs, rfl, a1, a2⟩ := h1.tup
        rw [h2.int]
        exact .inr (.inl (.inr ⟨a, vs, rfl, rfl, Same.sqT (T := tb X c) s a1, h4 G H _ (Grow.refl s) (rep_of_sqT (T := tb X c) a1 a2)⟩))
      · split at h3
        · cases h3
          rename_i hz
          obtain ⟨a, vs, rfl, a1, a2⟩ := h1.tup
          rw [h2.int]
          refine .inr (.inl (.inl ⟨a, k, vs, rfl, rfl, Same.sqT (T := tb X c) s a1, fun e => hz.1 ((reps_nil a2).mp e), hz.2.1, hz.2.2.1, by rw [Reps.length a2]; exact hz.2.2.2, fun p hp => ?_⟩))
          obtain ⟨g, ro⟩ := res_tup (T := tb X c) s hp (a2.rep k.toNat)
          exact h4 _ _ _ g ro
        · cases h3
    | _ => cases h3
  | lst xs =>
    cases dy with
    | int k =>
      simp only [mulD] at h3
      split at h3
      · cases h3
        rename_i hz
        obtain ⟨a, vs, rfl, a1, a2⟩ := h1.lst s
        rw [h2.int]
        refine .inr (.inr ⟨a, k, vs, rfl, rfl, a1, by omega, by omega, ?_, fun p hp => ?_⟩)
        · rw [Reps.length a2]
          exact million (Nat.le_trans (Nat.mul_le_mul hz.2.2 (show k.toNat ≤ 1000 by omega)) (by decide))
        · obtain ⟨g, ro⟩ := res_lst (T := tb X c) s hp (a2.rep k.toNat)
          exact h4 _ _ _ g ro
      · cases h3
    | _ => cases h3
  | _ => cases h3
/-! is -/
def isD (neg : Bool) : D → D → Option Bool := fun a b => match b with
  | .non => match a with
    | .non => some (!neg)
    | .bl _ => some neg
    | .int _ => some neg
    | .str _ => some neg
    | .tup _ => some neg
    | .lst _ => some neg
    | .ins _ _ => some neg
    | _ => none
  | .bl b => match a with
    | .bl a => some (xor neg (a == b))
    | _ => none
  | _ => none
theorem isD_non {T : Tb} {G H : Hp} {a : D} {v : V} {neg b : Bool} (s : Same G H) (h : RepT T G H a v) (q : isD neg a .non = some b) : b = xor neg (decide (v = .non)) := by
  have h := h.full s
  cases a with
  | non => simp only [Rep] at h; subst h; cases q; cases neg <;> rfl
  | bl _ => simp only [Rep] at h; subst h; cases q; cases neg <;> rfl
  | int _ => simp only [Rep] at h; subst h; cases q; cases neg <;> rfl
  | str _ => simp only [Rep] at h; subst h; cases q; cases neg <;> rfl
  | tup _ => simp only [Rep] at h; obtain ⟨a, vs, rfl, _⟩ := h; cases q; cases neg <;> rfl
  | lst _ => simp only [Rep] at h; obtain ⟨a, vs, rfl, _⟩ := h; cases q; cases neg <;> rfl
  | ins _ _ => simp only [Rep] at h; obtain ⟨a, vs, _, rfl, _⟩ := h; cases q; cases neg <;> rfl
  | dct _ _ => cases q
  | scr _ => cases q
theorem ev_is : OpR X (compareOp .Is) (rCm (tb X c) (isD false)) := OpR.weak (OpR.or op_isN op_is_bl) fun x y H Q h => by
  obtain ⟨G, dx, dy, b, s, h1, h2, h3, h4⟩ := h
  cases dy with
  | non =>
    have e := isD_non s h1 h3
    have hy := h2.full s
    simp only [Rep] at hy
    have := h4 G H (Grow.refl s)
    rw [e] at this
    exact .inl ⟨hy, by simpa using this⟩
  | bl b2 =>
    cases dx with
    | bl b1 =>
      have hx := h1.full s
      have hy := h2.full s
      simp only [Rep] at hx hy
      cases h3
      have := h4 G H (Grow.refl s)
      refine .inr ⟨b1, b2, hx, hy, ?_⟩
      have e : decide (b1 = b2) = (xor false (b1 == b2)) := by cases b1 <;> cases b2 <;> rfl
      rw [e]; exact this
    | _ => cases h3
  | _ => cases h3
theorem ev_isnot : OpR X (compareOp .IsNot) (rCm (tb X c) (isD true)) := OpR.weak (OpR.or op_notN op_isnot_bl) fun x y H Q h => by
  obtain ⟨G, dx, dy, b, s, h1, h2, h3, h4⟩ := h
  cases dy with
  | non =>
    have e := isD_non s h1 h3
    have hy := h2.full s
    simp only [Rep] at hy
    have := h4 G H (Grow.refl s)
    rw [e] at this
    exact .inl ⟨hy, by simpa using this⟩
  | bl b2 =>
    cases dx with
    | bl b1 =>
      have hx := h1.full s
      have hy := h2.full s
      simp only [Rep] at hx hy
      cases h3
      have := h4 G H (Grow.refl s)
      refine .inr ⟨b1, b2, hx, hy, ?_⟩
      have e : (!decide (b1 = b2)) = (xor true (b1 == b2)) := by cases b1 <;> cases b2 <;> rfl
      rw [e]; exact this
    | _ => cases h3
  | _ => cases h3
theorem ev_neg : UnR X (unaryOp .USub) (fun x H Q => ∃ i, x = .int i ∧ Q (.int (-i)) H) := un_neg
def negF (f : F) : F := fun env => bE (f env) fun r e => match peek e r with
  | some (.int i) => some (.ok (.sh (.int (-i))) e)
  | _ => none
theorem se_neg {E : XK} {p : Bool} {a : Expr} {f : F} {pos : Pos} (ha : SE X c E p a f) : SE X c E p (.UnaryOp .USub a pos) (negF f) := ⟨PE.weak (pe_un un_neg ha.run) fun σ H Q h => by
  obtain ⟨B, G, ios, env, S, h⟩ := h
  refine ⟨B, G, ios, env, S, PostE.bindO (p2 := true) (by rw [Bool.and_true]; exact h) fun r e1 G1 H1 v S1 sg1 V1 h1 _ => ?_⟩
  cases k : peek e1 r with
  | none => rw [k] at h1; exact h1.elim
  | some d =>
    rw [k] at h1
    cases d with
    | int i =>
      have := (V1.repT S1 (by rw [peek_norm]; exact k)).int
      exact ⟨i, this, PostE.give h1 S1 (rep_int (T := tb X c) (G := G1))⟩
    | _ => exact h1.elim⟩
end
end Ev
/-! t[::-1] of a tuple -/
namespace Ev
open PySem PySem.Spec L2
open PyProof.Rows (IsTup Subscript_ subscriptTail tail_any slicePart_none slicePart_int entry_tuple_getitem args_tuple_getitem tupleItemsOf_)
section
variable {P : Program} {w : World} {A : Around} {E : Value → Shared → Prop} {s : Shared}
theorem rev_adjust (n : Nat) : Builtin.Slice.sliceAdjust none none (-1) (n : Int) = ((n : Int) - 1, -1) := by
  unfold Builtin.Slice.sliceAdjust; rfl
theorem rev_places (n : Nat) : Builtin.Slice.slicePlaces ((n : Int) - 1) (-1) (-1) = n := by
  unfold Builtin.Slice.slicePlaces
  rw [if_neg (by decide : ¬ ((-1 : Int) > 0))]
  by_cases h : (n : Int) - 1 > -1
  · rw [if_pos h]
    have e : ((n : Int) - 1 - -1 - 1) / (- (-1 : Int)) = (n : Int) - 1 := by
      rw [show (- (-1 : Int)) = 1 from rfl, Int.ediv_one]; omega
    rw [e]; omega
  · rw [if_neg h]; omega
theorem fm_congr {α β : Type} {f g : α → Option β} : ∀ {l : List α}, (∀ a ∈ l, f a = g a) → l.filterMap f = l.filterMap g
  | [], _ => rfl
  | a :: l, h => by
    rw [List.filterMap_cons, List.filterMap_cons, h a List.mem_cons_self, fm_congr fun b hb => h b (List.mem_cons_of_mem _ hb)]
theorem rev_pick (xs : Array Value) : ((List.range xs.size).filterMap fun (k : Nat) => xs[((xs.size : Int) - 1 + (k : Int) * (-1)).toNat]?).toArray = xs.toList.reverse.toArray := by
  congr 1
  have e : ∀ k ∈ List.range xs.size, xs[((xs.size : Int) - 1 + (k : Int) * (-1)).toNat]? = some (xs.toList.reverse[k]?.getD .none) := fun k hk => by
    have hk : k < xs.size := List.mem_range.mp hk
    have hn : ((xs.size : Int) - 1 + (k : Int) * (-1)).toNat = xs.size - 1 - k := by omega
    rw [hn, List.getElem?_reverse (by simpa using hk)]
    have : xs.toList.length - 1 - k < xs.toList.length := by simp; omega
    rw [Array.length_toList] at this ⊢
    simp [Array.getElem?_toList, this]
  rw [fm_congr e]
  apply List.ext_getElem
  · simp
  · intro i h1 h2
    have hi : i < xs.size := by simpa using h2
    simp [List.getElem?_reverse, hi]
theorem sliceApplied_rev {sl : Addr} {n : Nat} {u : Tok} {Q : Int × Int × Nat → Shared → Prop} (hs : s.heap.IsSliceOf sl .none .none (.int (-1) u)) (h : Q ((n : Int) - 1, -1, n) s) :
    wpAny (model P w) A (Builtin.Slice.sliceApplied (.ref sl) (pure (n : Int))) Q E s := by
  obtain ⟨o, ho, _, hd⟩ := id hs
  unfold Builtin.Slice.sliceApplied Builtin.Slice.sliceFields
  refine wpAny_bind (wpAny_bind (wpAny_field ho hd (x := .none) rfl (wpAny_bind (wpAny_field ho hd (x := .none) rfl (wpAny_bind (wpAny_field ho hd (x := .int (-1) u) rfl (wpAny_pure ?_)))))))
  refine wpAny_bind (slicePart_int ?_)
  show wpAny _ _ (if ((-1 : Int) == 0) = true then _ else _) _ _ s
  rw [if_neg (by decide)]
  refine wpAny_bind (slicePart_none (wpAny_bind (slicePart_none (wpAny_bind (wpAny_pure ?_)))))
  show wpAny _ _ (match Builtin.Slice.sliceAdjust none none (-1) (n : Int) with | (lo, hi) => pure (lo, (-1 : Int), Builtin.Slice.slicePlaces lo hi (-1))) _ _ s
  rw [rev_adjust n]
  show wpAny _ _ (pure ((n : Int) - 1, (-1 : Int), Builtin.Slice.slicePlaces ((n : Int) - 1) (-1) (-1))) _ _ s
  rw [rev_places]
  exact wpAny_pure h
theorem getItem_tuple_rev {t sl : Addr} {its : Array Value} {u : Tok} {Q : Value → Shared → Prop} (ht : IsTup s.heap t its) (hs : s.heap.IsSliceOf sl .none .none (.int (-1) u))
    (h : Q (.ref s.heap.objs.size) { s with heap := s.heap.push { cls := .type "tuple", data := .seq its.toList.reverse.toArray } }) (hz : its.size ≤ sizeLine) : wpAny (model P w) A (getItem (.ref t) (.ref sl)) Q E s := by
  have ok : sizeOk (.seq its.toList.reverse.toArray) := by
    show its.toList.reverse.toArray.size ≤ sizeLine
    rw [List.size_toArray, List.length_reverse, Array.length_toList]
    exact hz
  obtain ⟨o, ho, hc, hd⟩ := id hs
  have hT : s.TypeIs (.ref sl) "slice" := ⟨o, ho, hc⟩
  unfold getItem
  try with_reducible refine wpAny_holding ?_
  first | refine wpAny_bind (wpAny_pure ?_) | skip
  refine wpAny_bind (wpAny_sequenceKey ht.typeIs (by decide) ?_)
  refine wpAny_bind (wpAny_callSpecial?_slot (name := Str.ofString "__getitem__") ht.typeIs PyProof.Rows.slot_tuple_getitem (wpAny_call_entry PyProof.Rows.slot_tuple_getitem ht.typeIs entry_tuple_getitem ?_ (args_tuple_getitem _ _)))
  show wpAny _ _ (Builtin.Tuple.tupleItemsOf (.ref t) >>= _) _ _ s
  refine wpAny_bind (tupleItemsOf_ ht (wpAny_bind (wpAny_typeOf hT ?_)))
  rw [if_pos (by decide)]
  refine wpAny_bind (sliceApplied_rev hs ?_)
  have no : ¬ ((((its.size : Int) - 1) == 0 && (-1 : Int) == 1 && its.size == its.size) = true) := by
    intro q
    rw [Bool.and_eq_true, Bool.and_eq_true] at q
    exact absurd q.1.2 (by decide)
  show wpAny _ _ (if (((its.size : Int) - 1) == 0 && (-1 : Int) == 1 && its.size == its.size) = true then _ else _) _ _ s
  rw [if_neg no, rev_pick]
  first
    | exact wpAny_bind (m := Builtin.Tuple.tupleExact _) (wpAny_newObj_type (wpAny_pure ⟨_, rfl, wpAny_pure h⟩) ok)
    | exact wpAny_bind (m := Builtin.Tuple.tupleExact _) (wpAny_newObj_type (wpAny_bind (wpAny_pure (wpAny_pure ⟨_, rfl, wpAny_pure h⟩))) ok)
    | exact wpAny_bind (wpAny_bind (m := Builtin.Tuple.tupleExact _) (wpAny_newObj_type (wpAny_pure (wpAny_pure ⟨_, rfl, wpAny_pure h⟩)) ok))
    | exact wpAny_bind (wpAny_bind (m := Builtin.Tuple.tupleExact _) (wpAny_newObj_type (wpAny_pure ⟨_, rfl, wpAny_pure h⟩) ok))
end
section
variable {X : Cx} {e : Expr} {te : TE} {k : Nat} {p1 p2 p3 pos : Pos}
/-- x[::-1], x a list or a tuple -/
def tRev (K : PySem.W.Frag) (te : TE) : TE := fun σ H Q => te σ H fun x H1 => ∃ a xs, x = .ref a ∧ ((SqL K H1 a xs ∧ ∀ p, H1 p = none → Q (.ref p) (upd H1 p (.lst xs.reverse))) ∨ (SqT K H1 a xs ∧ ∀ p, H1 p = none → Q (.ref p) (upd H1 p (.tup xs.reverse))))
theorem pe_rev (he : PE X e te) : PE X (.Subscript e (.Slice none none (some (.UnaryOp .USub (.Constant (.int 1) k p1) p2)) p3) pos) (tRev X.K te) := by
  refine ⟨fun pins s σ H Q I h => ?_⟩
  refine Subscript_ (thn (he.run pins s σ H _ I h) fun v s1 ⟨x, H1, I1, r1, a, xs, ex, q⟩ => ?_)
  subst ex
  cases r1
  have step : PO X (some (.UnaryOp .USub (.Constant (.int 1) k p1) p2)) (tPart (tUn (rU fun i => .int (-i)) (tC (.int 1)))) := po_some (pe_un un_neg pe_int)
  refine wpAny_Slice (thn (po_none.run pins s1 σ H1 (fun o H2 => o = none ∧ H2 = H1) I1 ⟨rfl, rfl⟩) fun vl s2 ⟨l, H2, I2, pl, el, e2⟩ => ?_)
  subst el e2
  refine thn (po_none.run pins s2 σ H2 (fun o H3 => o = none ∧ H3 = H2) I2 ⟨rfl, rfl⟩) fun vu s3 ⟨u, H3, I3, pu, eu, e3⟩ => ?_
  subst eu e3
  refine thn (step.run pins s3 σ H3 (fun o H4 => o = some (-1) ∧ H4 = H3) I3 ⟨1, rfl, -1, rfl, rfl, rfl⟩) fun vs s4 ⟨o, H4, I4, ps, eo, e4⟩ => ?_
  subst eo e4
  have I5 : Inv X pins σ H4 { s4 with heap := s4.heap.push { cls := .type "slice", data := .fields #[vl, vu, vs] } } := I4.kept (t' := s4.toks) fun b ob q => Heap.get?_push_of_some _ q
  show wpAny (model X.prog X.w) X.A (subscriptTail e (.Slice none none (some (.UnaryOp .USub (.Constant (.int 1) k p1) p2)) p3) (.ref a) (.ref s4.heap.objs.size)) (EP X pins σ Q) X.xe { s4 with heap := s4.heap.push { cls := .type "slice", data := .fields #[vl, vu, vs] } }
  rcases q with ⟨hx, q⟩ | ⟨hx, q⟩
  · obtain ⟨its, r, ht, hz⟩ := I5.list hx
    have hlen := r.length
    refine tail_any (ops := [.ref a, .ref s4.heap.objs.size]) ht.isList.typeIs (PySem.slot_list_getitem.lookup) ?_ (by with_unfolding_all rfl)
    refine wpAny_getItem_list_slice ht.isList (Heap.IsSliceOf.new _ vl vu vs) pl pu ps (by decide) ?_ (by rw [List.size_toArray]; omega)
    rw [PySem.W.krv_pick]
    exact ⟨.ref _, _, I5.laid (t' := s4.toks) (o := .lst xs.reverse) (fun b ob q => Heap.get?_push_of_some _ q) (Nat.le_refl _) ⟨by rw [List.length_reverse]; exact hz, _, 0, r.reverse, Heap.get?_push_size _ rfl⟩, rfl, q _ (I5.hok.fresh (Nat.le_refl _))⟩
  · obtain ⟨its, r, ht, hz⟩ := I5.tuple hx
    have hlen := r.length
    refine tail_any (ops := [.ref a, .ref s4.heap.objs.size]) (show IsTup _ a its.toArray from ht).typeIs (PyProof.Rows.slot_tuple_getitem.lookup) ?_ (by with_unfolding_all rfl)
    cases pl
    cases pu
    cases ps with
    | int i t =>
      refine getItem_tuple_rev (its := its.toArray) ht (Heap.IsSliceOf.new _ _ _ _) ?_ (by rw [List.size_toArray]; omega)
      exact ⟨.ref _, _, I5.laid (t' := s4.toks) (o := .tup xs.reverse) (fun b ob q => Heap.get?_push_of_some _ q) (Nat.le_refl _) ⟨by rw [List.length_reverse]; exact hz, _, r.reverse, _, Heap.get?_push_size _ rfl, rfl, 0, rfl⟩, rfl, q _ (I5.hok.fresh (Nat.le_refl _))⟩
end
end Ev
/-! sorted(x) of a list, a tuple of data -/
namespace Ev
open PySem PySem.Spec L2 PySem.W PySem.Calls
open PyProof.Rows (wpAny_call_entry_kw call_function_entry_kw seqObj sortedHeap sortedAll sortedAll_old sortedAll_at entry_proto_collect' entry_list_iadd' listItems_at listUpdate_at size_push' get?_update_seq kind_sorted plain_sorted entry_sorted args_sorted1 slot_list_sort entry_list_sort args_list_sort)
section
variable {P : Program} {w : World} {A : Around} {E : Value → Shared → Prop} {s : Shared}
theorem collect_sq {T : String} {l : Addr} {o : Obj} {vs : List Value} {n : Nat} {Q : List Value → Shared → Prop} (hT : T = "list" ∨ T = "tuple") (ho : s.heap.get? l = some o) (hc : o.cls = .type T) (hd : o.data = .seq vs.toArray n)
    (h : Q vs { s with heap := (s.heap.push (seqObj "list" #[] 0)).update s.heap.objs.size (Obj.mapSeq (· ++ vs.toArray)) }) (hz : vs.length ≤ sizeLine) :
    wpAny (model P w) A (collect (.ref l)) Q E s := by
  unfold collect
  refine wpAny_bind (wpAny_runValue (codeAny_builtin entry_proto_collect' ?_))
  show wpAny _ _ (newList [] >>= fun x => again (.builtin "list.__iadd__" ⟨[x, .ref l], []⟩)) _ _ s
  refine wpAny_bind (wpAny_newList (wpAny_pure ⟨Code.quiet_builtin _ (by decide +kernel), codeAny_builtin entry_list_iadd' ?_⟩))
  show wpAny _ _ (Builtin.List.listExtendWith (.ref s.heap.objs.size) (.ref l) (.ref s.heap.objs.size)) _ _ { s with heap := s.heap.push (seqObj "list" #[] 0) }
  unfold Builtin.List.listExtendWith
  have ho2 : (s.heap.push (seqObj "list" #[] 0)).get? l = some o := Heap.get?_push_of_some _ ho
  refine wpAny_bind (wpAny_typeOf (T := T) ⟨o, ho2, hc⟩ ?_)
  have yes : (Builtin.List.listSameRef (.ref s.heap.objs.size) (.ref l) || Value.type T == Value.type "list" || Value.type T == Value.type "tuple") = true := by
    rcases hT with rfl | rfl <;> simp
  rw [if_pos yes]
  refine wpAny_bind (listItems_at ho2 hd (wpAny_bind (listItems_at (xs := #[]) (n := 0) (Heap.get?_push_size _ rfl) rfl ?_)))
  rw [if_neg (by simp)]
  refine wpAny_bind (listUpdate_at (xs := #[]) (n := 0) (Heap.get?_push_size _ rfl) rfl (wpAny_pure ?_) (Nat.zero_le _) (by show (#[] ++ vs.toArray).size ≤ sizeLine + 1; simp only [Array.size_append, List.size_toArray, List.length_nil]; omega))
  show wpAny (model P w) A (load s.heap.objs.size >>= fun o => match o.data with
      | .seq xs _ => pure xs.toList
      | _ => unsupported "internal:collect") Q E { s with heap := (s.heap.push (seqObj "list" #[] 0)).update s.heap.objs.size (Obj.mapSeq (· ++ vs.toArray)) }
  refine wpAny_bind (wpAny_load (get?_update_seq (Heap.get?_push_size _ rfl) _) ?_)
  show wpAny _ _ (pure ((#[] : Array Value) ++ vs.toArray).toList) Q E _
  have e : ((#[] : Array Value) ++ vs.toArray).toList = vs := by simp
  rw [e]
  exact wpAny_pure h
theorem sorted_sq {T : String} {l : Addr} {o : Obj} {vs : List Value} {n : Nat} {κ : PyProof.Rows.KeyKind} {Q : Value → Shared → Prop} (hT : T = "list" ∨ T = "tuple") (ho : s.heap.get? l = some o) (hc : o.cls = .type T) (hd : o.data = .seq vs.toArray n) (hL : vs.length ≤ sizeLine)
    (S : SortsAt P w A.in1.in1 { s with heap := sortingHeap (copyHeap s.heap vs) (s.heap.objs.size + 1) vs } κ vs) (h : Q (.ref (s.heap.objs.size + 1)) { s with heap := sortedAll s.heap vs (sortVals κ false vs vs).toArray }) : wpAny (model P w) A (call (.builtin "sorted") [.ref l]) Q E s := by
  refine call_function_entry_kw kind_sorted plain_sorted entry_sorted (args_sorted1 _) ?_
  unfold Builtin.«sorted»
  refine wpAny_bind (m := checkCount "sorted" 1 1 _) (wpAny_pure ?_)
  refine wpAny_bind (collect_sq hT ho hc hd (wpAny_bind (wpAny_newList ?_ hL)) hL)
  have sz : ((s.heap.push (seqObj "list" #[] 0)).update s.heap.objs.size (Obj.mapSeq (· ++ vs.toArray))).objs.size = s.heap.objs.size + 1 := by
    rw [Heap.size_update, size_push']
  show wpAny _ _ _ _ _ { s with heap := copyHeap s.heap vs }
  rw [sz]
  refine wpAny_bind (wpAny_holding (wpAny_call_entry_kw slot_list_sort ⟨_, copyHeap_at s.heap vs, rfl⟩ entry_list_sort ?_ (args_list_sort _)))
  show wpAny (model P w) A.in1.in1 (Builtin.«list.sort» ⟨[.ref (s.heap.objs.size + 1)], []⟩) _ _ _
  exact list_sort_vals (s := { s with heap := copyHeap s.heap vs }) (copyHeap_at s.heap vs) S hL ⟨_, rfl, wpAny_pure ⟨_, rfl, h⟩⟩
end

/-! ### by data -/
def pyOf (d : D) : PyData := (toPy d).getD .none
theorem toPys_map : ∀ {ds : List D} {ps : List PyData}, toPys ds = some ps → ps = ds.map pyOf ∧ ∀ d ∈ ds, toPy d = some (pyOf d)
  | [], ps, h => by cases h; exact ⟨rfl, by simp⟩
  | d :: ds, ps, h => by
    simp only [toPys] at h
    cases k : toPy d with
    | none => simp only [k] at h; cases h
    | some p =>
      cases k2 : toPys ds with
      | none => simp only [k, k2] at h; cases h
      | some qs =>
        simp only [k, k2] at h
        cases h
        obtain ⟨h1, h2⟩ := toPys_map k2
        have e : pyOf d = p := by unfold pyOf; rw [k]; rfl
        exact ⟨by rw [h1, List.map_cons, e], fun x hx => by
          rcases List.mem_cons.mp hx with rfl | hx
          · rw [e]; exact k
          · exact h2 x hx⟩
def leD : D → D → Bool := fun a b => dataLe false pyOf a b
/-- the one empty tuple -/
def lone : List D → Bool
  | [.tup []] => true
  | _ => false
/-- may these be sorted -/
def sortable (ds : List D) : Bool := (ds.all fun a => ds.all fun b => alike (pyOf a) (pyOf b)) && ((ds.all fun d => match d with
  | .tup (_ :: _) => true
  | _ => false) || (ds.all fun d => match d with
  | .int _ => true
  | _ => false) || lone ds) && ds.all fun d => decide ((pyOf d).depth < 100)
theorem each_of {T : Tb} {G : Hp} {X : Cx} {pins : List (Addr × Obj)} {σ : L2.St} {H : Hp} {s : Shared} (I : Inv X pins σ H s) (hK : T.K = X.K) (sg : Same G H) : ∀ {ds : List D} {vs : List V} {us : List Value}, Reps T G ds vs → Vals vs us → (∀ d ∈ ds, toPy d = some (pyOf d)) →
    EachIs (fun u d => ∃ v, RelV v u ∧ Rep T G d v) us ds ∧ EachIs (fun u d => ∃ as, Reads s.heap u (pyOf d) as) us ds
  | [], vs, us, r, rv, _ => by
    have : vs = [] := by simpa [Reps] using r
    subst this
    cases rv
    exact ⟨.nil, .nil⟩
  | d :: ds, vs, us, r, rv, hp => by
    simp only [Reps] at r
    obtain ⟨v, vr, rfl, r1, r2⟩ := r
    cases rv with
    | cons a b =>
      obtain ⟨h1, h2⟩ := each_of I hK sg r2 b fun x hx => hp x (List.mem_cons_of_mem _ hx)
      have dp := Rep.dp (Rep.mono sg r1) (hp d List.mem_cons_self)
      rw [hK] at dp
      exact ⟨.cons ⟨v, a, r1⟩ h1, .cons (Dp.reads I _ _ _ dp a) h2⟩
theorem each_back {T : Tb} {G : Hp} : ∀ {us : List Value} {ds : List D}, EachIs (fun u d => ∃ v, RelV v u ∧ Rep T G d v) us ds → ∃ vs, Vals vs us ∧ Reps T G ds vs
  | _, _, .nil => ⟨[], .nil, rfl⟩
  | _, _, .cons ⟨v, a, b⟩ t => by
    obtain ⟨vs, h1, h2⟩ := each_back t
    exact ⟨v :: vs, .cons a h1, v, vs, rfl, b, h2⟩
def sortD : List D → Option Val
  | [.lst ds] => if (toPys ds).isSome = true ∧ sortable ds = true ∧ ds.length ≤ 1000000 then some (.fr (.lst (ds.mergeSort leD))) else none
  | [.tup ds] => if (toPys ds).isSome = true ∧ sortable ds = true ∧ ds.length ≤ 1000000 then some (.fr (.lst (ds.mergeSort leD))) else none
  | _ => none
theorem sorts_of {prog : Program} {w : World} {A : Around} {s : Shared} {vs : List Value} {ds : List PyData} (e : EachIs (fun v d => ∃ as, Reads s.heap v d as) vs ds) (hal : AllAlike ds) (hk : Sortable ds ∨ ds = [.tuple []]) (hu : ∀ d, d ∈ ds → A.units + d.depth < cLine) : SortsAt prog w A s (dataKind s.heap ds) vs := by
  rcases hk with hk | rfl
  · exact SortsAt.data e hal hk hu
  · refine ⟨fun v hv => ?_, PyProof.Rows.tuples' true, ?_, fun h2 => ?_⟩
    · obtain ⟨d, hd, as, r⟩ := e.left v hv
      exact ⟨_, dataKind_some hal hd r⟩
    · intro E x y a b Q ha hb hq
      obtain ⟨d, as, hd, ra, rfl⟩ := dataKind_inv ha
      obtain ⟨d', as', hd', rb, rfl⟩ := dataKind_inv hb
      have u := hu d hd
      have e1 : d = .tuple [] := by simpa using hd
      have e2 : d' = .tuple [] := by simpa using hd'
      subst e1
      subst e2
      have hq' : Q (dataLt (.tuple []) (.tuple [])) s := hq
      rw [dataLt_tuple] at hq'
      cases ra with
      | @tuple l o xs n _ _ h1 h2 h3 h4 =>
        cases rb with
        | @tuple l' o' xs' n' _ _ k1 k2 k3 k4 =>
          have u2 : A.units + min (PyData.depthAll []) (PyData.depthAll []) < cLine := by
            have : PyData.depthAll [] = 0 := by simp [PyData.depthAll]
            rw [this]
            simp only [Nat.min_self, Nat.add_zero]
            omega
          have n1 : xs.size = 0 := by simpa using SeqAt.ReadsAll.length _ _ _ h4
          have n2 : xs'.size = 0 := by simpa using SeqAt.ReadsAll.length _ _ _ k4
          exact kat_lt h1 h3 k1 k3 (katLex_alike [] [] 0 _ _ _ _ h4 k4 (by rfl) u2 (fun hb _ x r t ex => by cases ex) (by rw [n1, n2]; rfl) hq')
    · have := e.length
      simp at this
      omega
section
variable {X : Cx} {c : Tc} {k : Nat}
theorem ev_sorted (hr : Room k X.A) : CallR X (.builtin "sorted") (rCl (tb X c) sortD) := by
  intro pins s σ H vs us Q I r h
  obtain ⟨G, ds, res, sg, rp, hop, q⟩ := h
  have key : ∀ (l : Addr) (o : Obj) (T : String) (n : Nat) (its : List Value) (xs : List V) (es : List D), (T = "list" ∨ T = "tuple") → s.heap.get? l = some o → o.cls = .type T → o.data = .seq its.toArray n → Vals xs its → Reps (tb X c) G es xs →
      (toPys es).isSome = true → sortable es = true → es.length ≤ 1000000 → res = .fr (.lst (es.mergeSort leD)) → wpAny (model X.prog X.w) X.A (call (.builtin "sorted") [.ref l]) (EP X pins σ Q) X.xe s := by
    intro l o T n its xs es hT ho hc hd rv re hs1 hs2 hs3 hres
    cases kp : toPys es with
    | none => rw [kp] at hs1; cases hs1
    | some ps =>
      obtain ⟨hps, hpy⟩ := toPys_map kp
      obtain ⟨e1, e2⟩ := each_of (T := tb X c) I rfl sg re rv hpy
      unfold sortable at hs2
      rw [Bool.and_eq_true, Bool.and_eq_true] at hs2
      obtain ⟨⟨ha, hb⟩, hdp⟩ := hs2
      have all : AllAlike (es.map pyOf) := fun d hd d' hd' => by
        obtain ⟨a, h1, rfl⟩ := List.mem_map.mp hd
        obtain ⟨b, h2, rfl⟩ := List.mem_map.mp hd'
        exact List.all_eq_true.mp (List.all_eq_true.mp ha a h1) b h2
      have srt : Sortable (es.map pyOf) ∨ es.map pyOf = [.tuple []] := by
        rcases Bool.or_eq_true_iff.mp hb with hb | hb
        rcases Bool.or_eq_true_iff.mp hb with hb | hb
        · refine .inl (.inl fun d hd => ?_)
          obtain ⟨a, h1, rfl⟩ := List.mem_map.mp hd
          have h3 := List.all_eq_true.mp hb a h1
          have h4 := hpy a h1
          cases a with
          | tup zs => cases zs with
            | nil => cases h3
            | cons z zs =>
              simp only [toPy] at h4
              cases k2 : toPys (z :: zs) with
              | none => rw [k2] at h4; cases h4
              | some qs =>
                rw [k2] at h4
                have h5 : pyOf (.tup (z :: zs)) = .tuple qs := (Option.some.inj h4).symm
                obtain ⟨h6, _⟩ := toPys_map k2
                exact ⟨pyOf z, zs.map pyOf, by rw [h5, h6]; rfl⟩
          | _ => cases h3
        · refine .inl (.inr fun d hd => ?_)
          obtain ⟨a, h1, rfl⟩ := List.mem_map.mp hd
          have h3 := List.all_eq_true.mp hb a h1
          cases a with
          | int i => exact ⟨by simp [pyOf, toPy], by simp [pyOf, toPy]⟩
          | _ => cases h3
        · right
          unfold lone at hb
          split at hb
          · rfl
          · cases hb
      have hlen : its.length = es.length := e1.length
      have hun := hr.un
      have e2' : EachIs (fun v b => ∃ as, Reads (sortingHeap (copyHeap s.heap its) (s.heap.objs.size + 1) its) v (pyOf b) as) its es := e2.mono fun _ _ ⟨as, r⟩ => ⟨as, PyProof.Rows.Reads.keeps (fun _ _ => sorting_copy_old) r⟩
      refine sorted_sq hT ho hc hd (by rw [hlen]; exact million hs3) (sorts_of (s := { s with heap := sortingHeap (copyHeap s.heap its) (s.heap.objs.size + 1) its }) (each_map (R := fun v d => ∃ as, Reads (sortingHeap (copyHeap s.heap its) (s.heap.objs.size + 1) its) v d as) pyOf e2') all srt fun d hd => ?_) ?_
      · obtain ⟨a, h1, rfl⟩ := List.mem_map.mp hd
        have := List.all_eq_true.mp hdp a h1
        have := of_decide_eq_true this
        show X.A.in1.in1.units + _ < _
        have hin : X.A.in1.in1.units = X.A.units + 2 := rfl
        rw [hin]
        have hc : cLine = 9900 := rfl
        omega
      · obtain ⟨ep, he⟩ := sortedAll_at s.heap its (sortVals (dataKind (sortingHeap (copyHeap s.heap its) (s.heap.objs.size + 1) its) (es.map pyOf)) false its its).toArray
        have srtd := sortVals_data false e1 e2' all
        obtain ⟨ws, w1, w2⟩ := each_back (T := tb X c) srtd
        have hf := I.hok.fresh (a := s.heap.objs.size + 1) (Nat.le_succ _)
        have hw : ws.length ≤ sizeLine := by
          rw [Reps.length w2, List.length_mergeSort]; exact million hs3
        have q2 := q _ _ (.ref (s.heap.objs.size + 1)) (res_lst (T := tb X c) sg hf w2).1 (by rw [hres]; exact (res_lst (T := tb X c) sg hf w2).2)
        exact ⟨.ref _, _, I.laid (t' := s.toks) (o := .lst ws) (fun _ _ => sortedAll_old) (Nat.le_succ _) ⟨hw, _, ep, w1, he⟩, rfl, q2⟩
  cases ds with
  | nil => cases hop
  | cons d ds => cases ds with
    | cons _ _ => simp only [sortD] at hop; cases hop
    | nil =>
      obtain ⟨v, rfl, rp1⟩ := repTs1 rp
      obtain ⟨u, rfl, ru⟩ := vals1 r
      cases d with
      | lst es =>
        simp only [sortD] at hop
        split at hop
        · rename_i hh
          cases hop
          obtain ⟨a, xs, rfl, h1, h2⟩ := rp1.lst sg
          cases ru
          obtain ⟨its, rv, hl, hz⟩ := I.list (SqL.of h1)
          obtain ⟨o, ho, hc, n, hd⟩ := hl.isList
          exact key a o "list" n its xs es (.inl rfl) ho hc hd rv h2 hh.1 hh.2.1 hh.2.2 rfl
        · cases hop
      | tup es =>
        simp only [sortD] at hop
        split at hop
        · rename_i hh
          cases hop
          obtain ⟨a, xs, rfl, h1, h2⟩ := rp1.tup
          cases ru
          obtain ⟨its, rv, hl, hz⟩ := I.tuple (Same.sqT (T := tb X c) sg h1)
          obtain ⟨o, ho, hc, n, hd⟩ := hl
          exact key a o "tuple" n its xs es (.inr rfl) ho hc hd rv h2 hh.1 hh.2.1 hh.2.2 rfl
        · cases hop
      | _ => simp only [sortD] at hop; cases hop
end
end Ev
namespace Ev
open PySem PySem.Spec L2

/-! ### subscripts -/
def ixD : D → D → Option Val := fun a b => match a, b with
  | .lst xs, .int i => (atI xs i).map .sh
  | .tup xs, .int i => (atI xs i).map .sh
  | _, _ => none
theorem Reps.atI {T : Tb} {G : Hp} {ds : List D} {vs : List V} {i : Int} {d : D} (r : Reps T G ds vs) (h : L2.atI ds i = some d) : ∃ v, L2.atI vs i = some v ∧ Rep T G d v := by
  unfold L2.atI at h ⊢
  rw [Reps.length r]
  cases k : ixN ds.length i with
  | none => rw [k] at h; cases h
  | some j => rw [k] at h; exact Reps.at' r h
theorem IxR.weak {X : Cx} {r r' : R2} (h : IxR X r) (w : ∀ x y H Q, r' x y H Q → r x y H Q) : IxR X r' := fun va sl pins s σ H x y v u Q I rx ry hq hs => h va sl pins s σ H x y v u Q I rx ry (w x y H Q hq) hs
section
variable {X : Cx} {c : Tc} {E : XK} {pos : Pos} {a b e : Expr} {p q : Bool} {f fa fb : F}
theorem ev_ix : IxR X (rOp (tb X c) ixD) := IxR.weak ix_seq fun x y H Q h => by
  obtain ⟨G, dx, dy, r, s, h1, h2, h3, h4⟩ := h
  cases dx with
  | lst xs =>
    cases dy with
    | int i =>
      simp only [ixD] at h3
      cases k : L2.atI xs i with
      | none => rw [k] at h3; cases h3
      | some d =>
        rw [k] at h3; cases h3
        obtain ⟨l, vs, rfl, a1, a2⟩ := h1.lst s
        obtain ⟨v, b1, b2⟩ := a2.atI k
        rw [h2.int]
        exact .inl ⟨l, vs, i, v, rfl, rfl, SqL.of a1, b1, h4 G H v (Grow.refl s) b2⟩
    | _ => cases h3
  | tup xs =>
    cases dy with
    | int i =>
      simp only [ixD] at h3
      cases k : L2.atI xs i with
      | none => rw [k] at h3; cases h3
      | some d =>
        rw [k] at h3; cases h3
        obtain ⟨l, vs, rfl, a1, a2⟩ := h1.tup
        obtain ⟨v, b1, b2⟩ := a2.atI k
        rw [h2.int]
        exact .inr (.inl ⟨l, vs, i, v, rfl, rfl, Same.sqT (T := tb X c) s a1, b1, h4 G H v (Grow.refl s) b2⟩)
    | _ => cases h3
  | _ => cases h3
theorem se_ix (ha : SE X c E p a fa) (hb : SE X c E q b fb) (hs : PlainIx b := by intro _ _; rfl) : SE X c E (p && q) (.Subscript a b pos) (binF ixD fa fb) :=
  ⟨PE.weak (pe_ix ev_ix ha.run hb.run hs) fun _ _ _ h => bin_core h⟩
end

/-! ### slices -/
def cutD (xs : List D) (lo hi : Option Int) : List D := (xs.drop (HT.sIx xs.length 0 lo)).take (HT.sIx xs.length xs.length hi - HT.sIx xs.length 0 lo)
theorem Reps.drop {T : Tb} {G : Hp} : ∀ {ds : List D} {vs : List V} (n : Nat), Reps T G ds vs → Reps T G (ds.drop n) (vs.drop n)
  | ds, vs, 0, r => r
  | [], vs, n + 1, r => by
    have : vs = [] := by simpa [Reps] using r
    subst this; exact r
  | d :: ds, vs, n + 1, r => by
    simp only [Reps] at r
    obtain ⟨v, vr, rfl, r1, r2⟩ := r
    exact Reps.drop n r2
theorem Reps.take {T : Tb} {G : Hp} : ∀ {ds : List D} {vs : List V} (n : Nat), Reps T G ds vs → Reps T G (ds.take n) (vs.take n)
  | ds, vs, 0, r => by rw [List.take_zero, List.take_zero]; rfl
  | [], vs, n + 1, r => by
    have : vs = [] := by simpa [Reps] using r
    subst this; exact r
  | d :: ds, vs, n + 1, r => by
    simp only [Reps] at r
    obtain ⟨v, vr, rfl, r1, r2⟩ := r
    exact ⟨v, vr.take n, rfl, r1, Reps.take n r2⟩
theorem Reps.cut' {T : Tb} {G : Hp} {ds : List D} {vs : List V} (r : Reps T G ds vs) (lo hi : Option Int) : Reps T G (cutD ds lo hi) (cutV vs lo hi) := by
  unfold cutD cutV
  rw [Reps.length r]
  exact (r.drop _).take _
theorem cutD_length (xs : List D) (lo hi : Option Int) : (cutD xs lo hi).length ≤ xs.length := by
  unfold cutD
  rw [List.length_take, List.length_drop]
  omega
inductive OuP where
  | ok (o : Option Int) (env : List Ent) | ex (c : Nat)
abbrev FP := List Ent → Option OuP
def PostP (T : Tb) (E : XK) (p : Bool) (B G H : Hp) (ios : Fx) (σ : L2.St) (Q : Option Int → Hp → Prop) : Option OuP → Prop
  | none => False
  | some (.ok b env') => ∀ G' H', Sep T B G' H' ios env' σ → Same G G' → (p = true → Same H H') → Q b H'
  | some (.ex c) => ∀ H' o, Same B H' → (p = true → Same H H') → E (.ref (T.xc c)) o H'
def rdP (T : Tb) (E : XK) (p : Bool) (f : FP) : TO := fun σ H Q => ∃ B G ios env, Sep T B G H ios env σ ∧ PostP T E p B G H ios σ Q (f env)
structure SP (X : Cx) (c : Tc) (E : XK) (p : Bool) (e : Option Expr) (f : FP) : Prop where
  run : PO X e (rdP (tb X c) E p f)
theorem PO.weak {X : Cx} {e : Option Expr} {t t' : TO} (h : PO X e t) (w : ∀ σ H Q, t' σ H Q → t σ H Q) : PO X e t' := ⟨fun pins s σ H Q I q => h.run pins s σ H Q I (w σ H Q q)⟩
def noP : FP := fun env => some (.ok none env)
def bP (o : Option Ou) (k : Val → List Ent → Option OuP) : Option OuP := match o with
  | some (.ok r e) => k r e
  | some (.ex c) => some (.ex c)
  | none => none
def partF (f : F) : FP := fun env => match f env with
  | some (.ok r e1) => match peek e1 r with
    | some (.int i) => some (.ok (some i) e1)
    | _ => none
  | some (.ex c) => some (.ex c)
  | none => none
def bPE (o : Option OuP) (k : Option Int → List Ent → Option Ou) : Option Ou := match o with
  | some (.ok r e) => k r e
  | some (.ex c) => some (.ex c)
  | none => none
@[simp] theorem bPE_ok {r : Option Int} {e : List Ent} {k : Option Int → List Ent → Option Ou} : bPE (some (.ok r e)) k = k r e := rfl
def slD : D → Option Int → Option Int → Option Val
  | .lst xs, lo, hi => some (.fr (.lst (cutD xs lo hi)))
  | .scr xs, lo, hi => some (.fr (.lst (cutD xs lo hi)))
  | .tup xs, lo, hi => some (.sh (.tup (cutD xs lo hi)))
  | _, _, _ => none
def slF (fa : F) (fl fh : FP) : F := fun env => bE (fa env) fun ra e1 => bPE (fl e1) fun lo e2 => bPE (fh e2) fun hi e3 => match peek e3 ra with
  | some d => (slD d lo hi).map fun r => .ok r e3
  | none => none
section
variable {T : Tb} {E : XK} {p1 p2 : Bool} {B G H : Hp} {ios : Fx} {σ : L2.St} {Q : VK} {R : Option Int → Hp → Prop} {o : Option OuP}
theorem PostP.bind {k : Option Int → List Ent → Option Ou} (h : PostE T E (p1 && p2) B G H ios σ Q (bPE o k))
    (hk : ∀ r e1 G1 H1, Sep T B G1 H1 ios e1 σ → Same G G1 → PostE T E p2 B G1 H1 ios σ Q (k r e1) → R r H1) : PostP T E p1 B G H ios σ R o := by
  cases o with
  | none => exact h.elim
  | some u => cases u with
    | ex c => exact fun H' o sb sp => h H' o sb fun q => sp (Bool.and_eq_true_iff.mp q).1
    | ok r e1 =>
      intro G1 H1 S sg sp
      refine hk r e1 G1 H1 S sg ?_
      have h : PostE T E (p1 && p2) B G H ios σ Q (k r e1) := h
      cases hk2 : k r e1 with
      | none => rw [hk2] at h; exact h.elim
      | some u => rw [hk2] at h; cases u with
        | ok r2 e2 => exact fun G' H' v S2 sg2 sp2 => h G' H' v S2 (sg.trans sg2) fun q => (sp (Bool.and_eq_true_iff.mp q).1).trans (sp2 (Bool.and_eq_true_iff.mp q).2)
        | ex c => exact fun H' o sb sp2 => h H' o sb fun q => (sp (Bool.and_eq_true_iff.mp q).1).trans (sp2 (Bool.and_eq_true_iff.mp q).2)
end
section
variable {X : Cx} {c : Tc} {E : XK} {pos p2 : Pos} {a b e : Expr} {p q r : Bool} {f fa fb : F} {lo hi : Option Expr} {fl fh : FP}
theorem sp_none : SP X c E true none noP := ⟨PO.weak po_none fun σ H Q h => by
  obtain ⟨B, G, ios, env, S, h⟩ := h
  exact h G H S (Same.refl G) fun _ => Same.refl H⟩
theorem sp_some (he : SE X c E p e f) : SP X c E p (some e) (partF f) := ⟨PO.weak (po_some he.run) fun σ H Q h => by
  obtain ⟨B, G, ios, env, S, h⟩ := h
  refine ⟨B, G, ios, env, S, ?_⟩
  unfold partF at h
  generalize f env = o at h ⊢
  cases o with
  | none => exact h.elim
  | some u => cases u with
    | ex c => exact h
    | ok r e1 =>
      intro G1 H1 v S1 sg1 sp1 V1
      obtain ⟨G2, S2, sg2, V2⟩ := V1.opd S1
      cases k : peek e1 r with
      | none => simp only [k] at h; exact h.elim
      | some d =>
        simp only [k] at h
        cases d with
        | int i =>
          have := (V2.repT S2 (by rw [peek_norm]; exact k)).int
          exact ⟨i, this, h G2 H1 S2 (sg1.trans sg2) sp1⟩
        | _ => exact h.elim⟩
theorem RepT.scr {T : Tb} {G H : Hp} {ds : List D} {v : V} (s : Same G H) (h : RepT T G H (.scr ds) v) : ∃ a vs, v = .ref a ∧ SqL T.K H a vs ∧ Reps T G ds vs := by
  rcases h with h | ⟨a, vs, es, e, h1, h2, h3⟩
  · simp only [Rep] at h
    obtain ⟨a, vs, e, h1, h2⟩ := h
    exact ⟨a, vs, e, Same.seq s h1, h2⟩
  · cases h1
def rSlD (T : Tb) : V → Option Int → Option Int → Hp → VK → Prop := fun x lo hi H Q => ∃ G d r, Same G H ∧ RepT T G H d x ∧ slD d lo hi = some r ∧ ∀ G' H' v, Grow G H G' H' → ResOk T G' H H' v r → Q v H'
theorem SlR.weak {r r' : V → Option Int → Option Int → Hp → VK → Prop} (h : SlR X r) (w : ∀ x lo hi H Q, r' x lo hi H Q → r x lo hi H Q) : SlR X r' := fun pins s σ H x v vl vu lo hi sl Q I rx hs pl pu hq => h pins s σ H x v vl vu lo hi sl Q I rx hs pl pu (w x lo hi H Q hq)
theorem ev_sl : SlR X (rSlD (tb X c)) := SlR.weak (SlR.or sl_list sl_tupA) fun x lo hi H Q h => by
  obtain ⟨G, d, r, s, h1, h3, h4⟩ := h
  cases d with
  | lst xs =>
    cases h3
    obtain ⟨l, vs, rfl, a1, a2⟩ := h1.lst s
    refine .inl ⟨l, vs, rfl, SqL.of a1, fun p hp => ?_⟩
    obtain ⟨g, ro⟩ := res_lst (T := tb X c) s hp (a2.cut' lo hi)
    exact h4 _ _ _ g ro
  | scr xs =>
    cases h3
    obtain ⟨l, vs, rfl, a1, a2⟩ := h1.scr s
    refine .inl ⟨l, vs, rfl, a1, fun p hp => ?_⟩
    obtain ⟨g, ro⟩ := res_lst (T := tb X c) s hp (a2.cut' lo hi)
    exact h4 _ _ _ g ro
  | tup xs =>
    cases h3
    obtain ⟨l, vs, rfl, a1, a2⟩ := h1.tup
    refine .inr ⟨l, vs, rfl, Same.sqT (T := tb X c) s a1, fun hw => ?_, fun _ p hp => ?_⟩
    · have e : cutD xs lo hi = xs := by
        rw [Reps.length a2] at hw
        unfold cutD
        rw [hw.1, hw.2, List.drop_zero, Nat.sub_zero, List.take_length]
      rw [e] at h4
      exact h4 G H _ (Grow.refl s) (rep_of_sqT (T := tb X c) a1 a2)
    · obtain ⟨g, ro⟩ := res_tup (T := tb X c) s hp (a2.cut' lo hi)
      exact h4 _ _ _ g ro
  | _ => cases h3
theorem se_sl (ha : SE X c E p e fa) (hl : SP X c E q lo fl) (hh : SP X c E r hi fh) : SE X c E (p && (q && r)) (.Subscript e (.Slice lo hi none p2) pos) (slF fa fl fh) := ⟨PE.weak (pe_slice ev_sl ha.run hl.run hh.run) fun σ H Q h => by
  obtain ⟨B, G, ios, env, S, h⟩ := h
  refine ⟨B, G, ios, env, S, h.bindO fun ra e1 G1 H1 x S1 sg1 V1 h1 _ => ?_⟩
  refine ⟨B, G1, ios, e1, S1, PostP.bind h1 fun l e2 G2 H2 S2 sg2 h2 => ?_⟩
  refine ⟨B, G2, ios, e2, S2, PostP.bind (p2 := true) (by rw [Bool.and_true]; exact h2) fun u e3 G3 H3 S3 sg3 h3 => ?_⟩
  cases k1 : peek e3 ra with
  | none => simp only [k1] at h3; exact h3.elim
  | some d =>
    simp only [k1] at h3
    cases k3 : slD d l u with
    | none => rw [k3] at h3; exact h3.elim
    | some rr =>
      rw [k3] at h3
      exact ⟨G3, d, rr, S3.gh, ((V1.mono sg2).mono sg3).repT S3 (by rw [peek_norm]; exact k1), k3, fun G' H' v g ro => h3.res S3 g ro⟩⟩
/-! x[::-1] -/
def revD : D → Option Val
  | .lst xs => some (.fr (.lst xs.reverse))
  | .tup xs => some (.sh (.tup xs.reverse))
  | _ => none
def unF (op : D → Option Val) (fa : F) : F := fun env => bE (fa env) fun ra e1 => match peek e1 ra with
  | some d => (op d).map fun r => .ok r e1
  | none => none
theorem un_core {op : D → Option Val} {T : Tb} {σ : L2.St} {H : Hp} {Q : VK} (h : rd T E p (unF op fa) σ H Q) : rd T E p fa σ H fun x H1 => ∃ G d r, Same G H1 ∧ RepT T G H1 d x ∧ op d = some r ∧ ∀ G' H' v, Grow G H1 G' H' → ResOk T G' H1 H' v r → Q v H' := by
  obtain ⟨B, G, ios, env, S, h⟩ := h
  refine ⟨B, G, ios, env, S, PostE.bindO (p2 := true) (by rw [Bool.and_true]; exact h) fun ra e1 G1 H1 x S1 sg1 V1 h1 _ => ?_⟩
  cases k1 : peek e1 ra with
  | none => simp only [k1] at h1; exact h1.elim
  | some d =>
    simp only [k1] at h1
    cases k3 : op d with
    | none => rw [k3] at h1; exact h1.elim
    | some rr =>
      rw [k3] at h1
      exact ⟨G1, d, rr, S1.gh, V1.repT S1 (by rw [peek_norm]; exact k1), k3, fun G' H' v g ro => h1.res S1 g ro⟩
theorem Reps.reverse {T : Tb} {G : Hp} : ∀ {ds : List D} {vs : List V}, Reps T G ds vs → Reps T G ds.reverse vs.reverse
  | [], vs, r => by
    have : vs = [] := by simpa [Reps] using r
    subst this; exact r
  | d :: ds, vs, r => by
    simp only [Reps] at r
    obtain ⟨v, vr, rfl, r1, r2⟩ := r
    rw [List.reverse_cons, List.reverse_cons]
    exact (Reps.reverse r2).app ⟨v, [], rfl, r1, rfl⟩
/-- what depends on a value alone, with the value's own rule -/
theorem rd_mono {T : Tb} {σ : L2.St} {H : Hp} {Q Q' : VK} (h : rd T E p f σ H Q) (w : ∀ v H', Q v H' → Q' v H') : rd T E p f σ H Q' := by
  obtain ⟨B, G, ios, env, S, h⟩ := h
  refine ⟨B, G, ios, env, S, ?_⟩
  generalize f env = o at h ⊢
  cases o with
  | none => exact h
  | some u => cases u with
    | ex c => exact h
    | ok r e => exact fun G' H' v S sg sp V => w v H' (h G' H' v S sg sp V)
theorem se_rev {k : Nat} {p1 p3 p4 : Pos} (ha : SE X c E p e fa) : SE X c E p (.Subscript e (.Slice none none (some (.UnaryOp .USub (.Constant (.int 1) k p1) p3)) p4) pos) (unF revD fa) := ⟨PE.weak (pe_rev ha.run) fun σ H Q h => rd_mono (un_core h) fun x H1 h => by
  obtain ⟨G, d, r, s, h1, h3, h4⟩ := h
  cases d with
  | lst xs =>
    cases h3
    obtain ⟨l, vs, rfl, a1, a2⟩ := h1.lst s
    refine ⟨l, vs, rfl, .inl ⟨SqL.of a1, fun p hp => ?_⟩⟩
    obtain ⟨g, ro⟩ := res_lst (T := tb X c) s hp a2.reverse
    exact h4 _ _ _ g ro
  | tup xs =>
    cases h3
    obtain ⟨l, vs, rfl, a1, a2⟩ := h1.tup
    refine ⟨l, vs, rfl, .inr ⟨Same.sqT (T := tb X c) s a1, fun p hp => ?_⟩⟩
    obtain ⟨g, ro⟩ := res_tup (T := tb X c) s hp a2.reverse
    exact h4 _ _ _ g ro
  | _ => cases h3⟩
end

/-! ### built-ins -/
theorem CallR.weak {X : Cx} {v : Value} {r r' : List V → Hp → VK → Prop} (h : CallR X v r) (w : ∀ vs H Q, r' vs H Q → r vs H Q) : CallR X v r' := fun pins s σ H vs us Q I rv hq => h pins s σ H vs us Q I rv (w vs H Q hq)
def on1 (f : D → Option Val) : List D → Option Val
  | [d] => f d
  | _ => none
theorem rcl1 {T : Tb} {f : D → Option Val} {vs : List V} {H : Hp} {Q : VK} (h : rCl T (on1 f) vs H Q) : ∃ G d v r, vs = [v] ∧ Same G H ∧ RepT T G H d v ∧ f d = some r ∧ ∀ G' H' v, Grow G H G' H' → ResOk T G' H H' v r → Q v H' := by
  obtain ⟨G, ds, r, s, h1, h2, h3⟩ := h
  cases ds with
  | nil => cases h2
  | cons d ds => cases ds with
    | cons _ _ => cases h2
    | nil =>
      obtain ⟨v, rfl, hv⟩ := repTs1 h1
      exact ⟨G, d, v, r, rfl, s, hv, h2, h3⟩
section
variable {X : Cx} {c : Tc} {k : Nat}
def lenD : List D → Option Val := on1 fun d => match d with
  | .lst xs => some (.sh (.int xs.length))
  | .tup xs => some (.sh (.int xs.length))
  | .scr xs => some (.sh (.int xs.length))
  | _ => none
theorem ev_len : CallR X (.builtin "len") (rCl (tb X c) lenD) := CallR.weak call_len fun vs H Q h => by
  obtain ⟨G, d, v, r, rfl, s, h1, h3, h4⟩ := rcl1 h
  cases d with
  | lst xs =>
    cases h3
    obtain ⟨l, vs, rfl, a1, a2⟩ := h1.lst s
    exact ⟨_, vs.length, rfl, .inl ⟨vs, SqL.of a1, rfl⟩, by rw [Reps.length a2]; exact h4 G H _ (Grow.refl s) (rep_int (T := tb X c) (G := G))⟩
  | scr xs =>
    cases h3
    obtain ⟨l, vs, rfl, a1, a2⟩ := h1.scr s
    exact ⟨_, vs.length, rfl, .inl ⟨vs, a1, rfl⟩, by rw [Reps.length a2]; exact h4 G H _ (Grow.refl s) (rep_int (T := tb X c) (G := G))⟩
  | tup xs =>
    cases h3
    obtain ⟨l, vs, rfl, a1, a2⟩ := h1.tup
    exact ⟨_, vs.length, rfl, .inr ⟨vs, Same.sqT (T := tb X c) s a1, rfl⟩, by rw [Reps.length a2]; exact h4 G H _ (Grow.refl s) (rep_int (T := tb X c) (G := G))⟩
  | _ => cases h3
def listD : List D → Option Val := on1 fun d => match d with
  | .lst xs => some (.fr (.lst xs))
  | .tup xs => some (.fr (.lst xs))
  | .scr xs => some (.fr (.lst xs))
  | _ => none
theorem ev_list : CallR X (.type "list") (rCl (tb X c) listD) := CallR.weak call_list_of fun vs H Q h => by
  obtain ⟨G, d, v, r, rfl, s, h1, h3, h4⟩ := rcl1 h
  cases d with
  | lst xs =>
    cases h3
    obtain ⟨l, vs, rfl, a1, a2⟩ := h1.lst s
    refine ⟨_, vs, rfl, .inl (SqL.of a1), fun p hp => ?_⟩
    obtain ⟨g, ro⟩ := res_lst (T := tb X c) s hp a2
    exact h4 _ _ _ g ro
  | scr xs =>
    cases h3
    obtain ⟨l, vs, rfl, a1, a2⟩ := h1.scr s
    refine ⟨_, vs, rfl, .inl a1, fun p hp => ?_⟩
    obtain ⟨g, ro⟩ := res_lst (T := tb X c) s hp a2
    exact h4 _ _ _ g ro
  | tup xs =>
    cases h3
    obtain ⟨l, vs, rfl, a1, a2⟩ := h1.tup
    refine ⟨_, vs, rfl, .inr (Same.sqT (T := tb X c) s a1), fun p hp => ?_⟩
    obtain ⟨g, ro⟩ := res_lst (T := tb X c) s hp a2
    exact h4 _ _ _ g ro
  | _ => cases h3
def tupleD : List D → Option Val := on1 fun d => match d with
  | .lst xs => some (.sh (.tup xs))
  | .tup xs => some (.sh (.tup xs))
  | _ => none
theorem ev_tuple : CallR X (.type "tuple") (rCl (tb X c) tupleD) := CallR.weak call_tuple_of fun vs H Q h => by
  obtain ⟨G, d, v, r, rfl, s, h1, h3, h4⟩ := rcl1 h
  cases d with
  | lst xs =>
    cases h3
    obtain ⟨l, vs, rfl, a1, a2⟩ := h1.lst s
    refine ⟨_, vs, rfl, .inl ⟨SqL.of a1, fun p hp => ?_⟩⟩
    obtain ⟨g, ro⟩ := res_tup (T := tb X c) s hp a2
    exact h4 _ _ _ g ro
  | tup xs =>
    cases h3
    obtain ⟨l, vs, rfl, a1, a2⟩ := h1.tup
    exact ⟨_, vs, rfl, .inr ⟨Same.sqT (T := tb X c) s a1, h4 G H _ (Grow.refl s) (rep_of_sqT (T := tb X c) a1 a2)⟩⟩
  | _ => cases h3
/-! lists of flags, of ints -/
def blsOf : List D → Option (List Bool)
  | [] => some []
  | .bl b :: ds => (blsOf ds).map (b :: ·)
  | _ => none
def intsOf : List D → Option (List Int)
  | [] => some []
  | .int b :: ds => (intsOf ds).map (b :: ·)
  | _ => none
theorem Reps.bls {T : Tb} {G : Hp} : ∀ {ds : List D} {vs : List V} {bs : List Bool}, Reps T G ds vs → blsOf ds = some bs → vs = bs.map V.bl
  | [], vs, bs, r, h => by
    cases h
    simpa [Reps] using r
  | d :: ds, vs, bs, r, h => by
    simp only [Reps] at r
    obtain ⟨v, vr, rfl, r1, r2⟩ := r
    cases d with
    | bl b =>
      simp only [blsOf] at h
      cases k : blsOf ds with
      | none => rw [k] at h; cases h
      | some cs =>
        rw [k] at h; cases h
        simp only [Rep] at r1
        rw [r1, Reps.bls r2 k]; rfl
    | _ => simp [blsOf] at h
theorem Reps.ints {T : Tb} {G : Hp} : ∀ {ds : List D} {vs : List V} {bs : List Int}, Reps T G ds vs → intsOf ds = some bs → vs = bs.map V.int
  | [], vs, bs, r, h => by
    cases h
    simpa [Reps] using r
  | d :: ds, vs, bs, r, h => by
    simp only [Reps] at r
    obtain ⟨v, vr, rfl, r1, r2⟩ := r
    cases d with
    | int b =>
      simp only [intsOf] at h
      cases k : intsOf ds with
      | none => rw [k] at h; cases h
      | some cs =>
        rw [k] at h; cases h
        simp only [Rep] at r1
        rw [r1, Reps.ints r2 k]; rfl
    | _ => simp [intsOf] at h
def anyD : List D → Option Val := on1 fun d => match d with
  | .lst xs => (blsOf xs).map fun bs => .sh (.bl (bs.any id))
  | _ => none
def allD : List D → Option Val := on1 fun d => match d with
  | .lst xs => (blsOf xs).map fun bs => .sh (.bl (bs.all id))
  | _ => none
def sumD : List D → Option Val := on1 fun d => match d with
  | .lst xs => (intsOf xs).map fun bs => .sh (.int bs.sum)
  | _ => none
theorem ev_any (hc : X.calm = true) : CallR X (.builtin "any") (rCl (tb X c) anyD) := CallR.weak (cr_any hc) fun vs H Q h => by
  obtain ⟨G, d, v, r, rfl, s, h1, h3, h4⟩ := rcl1 h
  cases d with
  | lst xs =>
    cases k : blsOf xs with
    | none => simp only [k] at h3; cases h3
    | some bs =>
      simp only [k] at h3
      cases h3
      obtain ⟨l, vs, rfl, a1, a2⟩ := h1.lst s
      exact ⟨l, bs, rfl, by rw [← a2.bls k]; exact SqL.of a1, h4 G H _ (Grow.refl s) (rep_bl (T := tb X c) (G := G))⟩
  | _ => cases h3
theorem ev_all (hc : X.calm = true) : CallR X (.builtin "all") (rCl (tb X c) allD) := CallR.weak (cr_all hc) fun vs H Q h => by
  obtain ⟨G, d, v, r, rfl, s, h1, h3, h4⟩ := rcl1 h
  cases d with
  | lst xs =>
    cases k : blsOf xs with
    | none => simp only [k] at h3; cases h3
    | some bs =>
      simp only [k] at h3
      cases h3
      obtain ⟨l, vs, rfl, a1, a2⟩ := h1.lst s
      exact ⟨l, bs, rfl, by rw [← a2.bls k]; exact SqL.of a1, h4 G H _ (Grow.refl s) (rep_bl (T := tb X c) (G := G))⟩
  | _ => cases h3
theorem ev_sum (hc : X.calm = true) : CallR X (.builtin "sum") (rCl (tb X c) sumD) := CallR.weak (cr_sum hc) fun vs H Q h => by
  obtain ⟨G, d, v, r, rfl, s, h1, h3, h4⟩ := rcl1 h
  cases d with
  | lst xs =>
    cases k : intsOf xs with
    | none => simp only [k] at h3; cases h3
    | some bs =>
      simp only [k] at h3
      cases h3
      obtain ⟨l, vs, rfl, a1, a2⟩ := h1.lst s
      exact ⟨l, bs, rfl, by rw [← a2.ints k]; exact SqL.of a1, h4 G H _ (Grow.refl s) (rep_int (T := tb X c) (G := G))⟩
  | _ => cases h3
def absD : List D → Option Val := on1 fun d => match d with
  | .int i => some (.sh (.int (if i < 0 then -i else i)))
  | _ => none
theorem ev_abs : CallR X (.builtin "abs") (rCl (tb X c) absD) := CallR.weak call_abs fun vs H Q h => by
  obtain ⟨G, d, v, r, rfl, s, h1, h3, h4⟩ := rcl1 h
  cases d with
  | int i => cases h3; rw [h1.int]; exact ⟨i, rfl, h4 G H _ (Grow.refl s) (rep_int (T := tb X c) (G := G))⟩
  | _ => cases h3
def intD : List D → Option Val := on1 fun d => match d with
  | .int i => some (.sh (.int i))
  | .bl b => some (.sh (.int (if b then 1 else 0)))
  | _ => none
theorem ev_int : CallR X (.type "int") (rCl (tb X c) intD) := CallR.weak call_int1 fun vs H Q h => by
  obtain ⟨G, d, v, r, rfl, s, h1, h3, h4⟩ := rcl1 h
  cases d with
  | int i => cases h3; rw [h1.int]; exact .inl ⟨i, rfl, h4 G H _ (Grow.refl s) (rep_int (T := tb X c) (G := G))⟩
  | bl b =>
    cases h3
    have := h1.full s
    simp only [Rep] at this
    subst this
    exact .inr ⟨b, rfl, h4 G H _ (Grow.refl s) (rep_int (T := tb X c) (G := G))⟩
  | _ => cases h3
end

/-! ### in -/
def inD (neg : Bool) : D → D → Option Bool := fun a b => match toPy a with
  | none => none
  | some p => match b with
    | .lst ds => match toPys ds with
      | some ps => if SeqAt.shaped p = true ∧ SeqAt.shaped (.list ps) = true then some (xor neg (ps.any fun z => PyData.eqv z p)) else none
      | none => none
    | .tup ds => match toPys ds with
      | some ps => if SeqAt.shaped p = true ∧ SeqAt.shaped (.tuple ps) = true then some (xor neg (ps.any fun z => PyData.eqv z p)) else none
      | none => none
    | _ => none
section
variable {X : Cx} {c : Tc} {k : Nat}
theorem op_inT (hu : X.A.units + 65 < cLine) : OpR X (compareOp .In) (fun x y H Q => ∃ d ds, Dp X.K H x d ∧ Dp X.K H y (.tuple ds) ∧ SeqAt.shaped d = true ∧ SeqAt.shaped (.tuple ds) = true ∧ Q (.bl (ds.any fun z => PyData.eqv z d)) H) := by
  intro pins s σ H x y v u Q I rx ry h
  obtain ⟨d, ds, hd, he, sd, se, q⟩ := h
  obtain ⟨as, r1⟩ := Dp.reads I d x v hd rx
  obtain ⟨bs, r2⟩ := Dp.reads I (.tuple ds) y u he ry
  exact SeqAt.in_tuple_reads r2 r1 (SeqAt.canLay_of_shaped se) (SeqAt.canLay_of_shaped sd) (PyProof.Rows.room_in_shaped sd hu) ⟨.bl _, H, I, rfl, q⟩
theorem op_notInT (hu : X.A.units + 65 < cLine) : OpR X (compareOp .NotIn) (fun x y H Q => ∃ d ds, Dp X.K H x d ∧ Dp X.K H y (.tuple ds) ∧ SeqAt.shaped d = true ∧ SeqAt.shaped (.tuple ds) = true ∧ Q (.bl (!ds.any fun z => PyData.eqv z d)) H) := by
  intro pins s σ H x y v u Q I rx ry h
  obtain ⟨d, ds, hd, he, sd, se, q⟩ := h
  obtain ⟨as, r1⟩ := Dp.reads I d x v hd rx
  obtain ⟨bs, r2⟩ := Dp.reads I (.tuple ds) y u he ry
  exact SeqAt.notIn_tuple_reads r2 r1 (SeqAt.canLay_of_shaped se) (SeqAt.canLay_of_shaped sd) (PyProof.Rows.room_in_shaped sd hu) ⟨.bl _, H, I, rfl, q⟩
theorem inD_to {T : Tb} {G H : Hp} {dx dy : D} {x y : V} {neg b : Bool} (s : Same G H) (h1 : RepT T G H dx x) (h2 : RepT T G H dy y) (h3 : inD neg dx dy = some b) :
    (∃ d ds, Dp T.K H x d ∧ Dp T.K H y (.list ds) ∧ SeqAt.shaped d = true ∧ SeqAt.shaped (.list ds) = true ∧ b = xor neg (ds.any fun z => PyData.eqv z d)) ∨
    (∃ d ds, Dp T.K H x d ∧ Dp T.K H y (.tuple ds) ∧ SeqAt.shaped d = true ∧ SeqAt.shaped (.tuple ds) = true ∧ b = xor neg (ds.any fun z => PyData.eqv z d)) := by
  unfold inD at h3
  cases k1 : toPy dx with
  | none => simp only [k1] at h3; cases h3
  | some p =>
    simp only [k1] at h3
    cases dy with
    | lst ds =>
      simp only at h3
      cases k2 : toPys ds with
      | none => simp only [k2] at h3; cases h3
      | some ps =>
        simp only [k2] at h3
        split at h3
        · rename_i hs
          cases h3
          exact .inl ⟨p, ps, Rep.dp (h1.full s) k1, Rep.dp (h2.full s) (by simp only [toPy, k2]; rfl), hs.1, hs.2, rfl⟩
        · cases h3
    | tup ds =>
      simp only at h3
      cases k2 : toPys ds with
      | none => simp only [k2] at h3; cases h3
      | some ps =>
        simp only [k2] at h3
        split at h3
        · rename_i hs
          cases h3
          exact .inr ⟨p, ps, Rep.dp (h1.full s) k1, Rep.dp (h2.full s) (by simp only [toPy, k2]; rfl), hs.1, hs.2, rfl⟩
        · cases h3
    | _ => cases h3
theorem ev_in (hr : Room k X.A) : OpR X (compareOp .In) (rCm (tb X c) (inD false)) := OpR.weak (OpR.or (op_inD (by have := hr.un; omega)) (op_inT (by have := hr.un; omega))) fun x y H Q h => by
  obtain ⟨G, dx, dy, b, s, h1, h2, h3, h4⟩ := h
  have h5 := h4 G H (Grow.refl s)
  rcases inD_to s h1 h2 h3 with ⟨d, ds, q1, q2, q3, q4, e⟩ | ⟨d, ds, q1, q2, q3, q4, e⟩
  · exact .inl ⟨d, ds, q1, q2, q3, q4, by rw [e, Bool.false_xor] at h5; exact h5⟩
  · exact .inr ⟨d, ds, q1, q2, q3, q4, by rw [e, Bool.false_xor] at h5; exact h5⟩
theorem ev_notin (hr : Room k X.A) : OpR X (compareOp .NotIn) (rCm (tb X c) (inD true)) := OpR.weak (OpR.or (op_notInD (by have := hr.un; omega)) (op_notInT (by have := hr.un; omega))) fun x y H Q h => by
  obtain ⟨G, dx, dy, b, s, h1, h2, h3, h4⟩ := h
  have h5 := h4 G H (Grow.refl s)
  rcases inD_to s h1 h2 h3 with ⟨d, ds, q1, q2, q3, q4, e⟩ | ⟨d, ds, q1, q2, q3, q4, e⟩
  · exact .inl ⟨d, ds, q1, q2, q3, q4, by rw [e, Bool.true_xor] at h5; exact h5⟩
  · exact .inr ⟨d, ds, q1, q2, q3, q4, by rw [e, Bool.true_xor] at h5; exact h5⟩
end
end Ev
/-! enumerate(t), t a tuple -/
namespace Ev
open PySem PySem.Spec L2
open RZ (ItzT pi_zipA iZipA)
open PyProof.Rows (Call_ boot_enumerate)
section
variable {P : Program} {w : World} {A : Around} {E : Value → Shared → Prop} {s : Shared}
set_option maxHeartbeats 1000000 in
theorem enum_new {v : Value} {o : Obj} {Hc : Heap → Prop} (B : Begins v o Hc) :
    Meets (Builtin.«enumerate.__new__» ⟨[.type "enumerate", v], []⟩) (fun _ R s => Hc s.heap ∧
      R (.ok (.ret (.ref (s.heap.push o).objs.size))) { s with heap := (s.heap.push o).push { cls := .type "enumerate", data := .fields #[.none, .bool false, .ref s.heap.objs.size, rawInt 0, .none, .none] } }) :=
  .of_wp fun P w A R s h => by
    obtain ⟨hp, g, d, tk, os⟩ := s
    obtain ⟨h1, h⟩ := h
    have sub := sub_enumerate
    have it : ∀ {A' : Around} {E Q : Value → Shared → Prop}, Q (.ref hp.objs.size) ⟨hp.push o, g, d, tk, os⟩ → wpAny (model P w) A' (pyIter v) Q E ⟨hp, g, d, tk, os⟩ := fun q => B.iter P w _ _ ⟨hp, g, d, tk, os⟩ _ h1 q
    wp_walk using it
    refine wpAny_stack_any fun st => wpAny_pure ?_
    split
    · rename_i c _ _ _ _ _
      cases (c == Value.type "enumerate") <;> (wp_walk using it; exact ⟨_, rfl, h⟩)
    · wp_walk using it
      exact ⟨_, rfl, h⟩
theorem call_enum_of {v : Value} {o : Obj} {Hc : Heap → Prop} {Q : Value → Shared → Prop} (B : Begins v o Hc) (h1 : Hc s.heap)
    (h : ∀ h', IsEnum h' (s.heap.objs.size + 1) s.heap.objs.size 0 .none → h'.get? s.heap.objs.size = some o → (∀ b u, s.heap.get? b = some u → h'.get? b = some u) → Q (.ref (s.heap.objs.size + 1)) { s with heap := h' }) :
    wpAny (model P w) A (call (.type "enumerate") [v]) Q E s := by
  refine callType_new F.called_enumerate (by decide) (F.typeCall_enumerate_1 _) (F.newCall_enumerate_1 _) (fun obj => F.args_object_init_2 obj _) F.entry_enumerate_new (enum_new B) ⟨h1, ?_⟩
  have sz : (s.heap.push o).objs.size = s.heap.objs.size + 1 := Heap.size_push ..
  show _ ∧ _
  rw [sz]
  have he : IsEnum ((s.heap.push o).push { cls := .type "enumerate", data := .fields #[.none, .bool false, .ref s.heap.objs.size, rawInt 0, .none, .none] }) (s.heap.objs.size + 1) s.heap.objs.size 0 .none := by
    have q := Heap.get?_push_size (s.heap.push o) (o := { cls := .type "enumerate", data := .fields #[.none, .bool false, .ref s.heap.objs.size, rawInt 0, .none, .none] }) rfl
    rw [sz] at q; exact q
  exact ⟨⟨_, he, rfl⟩, h _ he (Heap.get?_push_of_some _ (Heap.get?_push_size _ B.free)) fun b o x => Heap.get?_push_of_some _ (Heap.get?_push_of_some _ x)⟩
end
def IteT (K : PySem.W.Frag) (a : Addr) (xs : List V) : It :=
  ⟨fun i H => SqT K H a xs ∧ i < xs.length, fun i H v H' => ∃ T x, v = .ref T ∧ H T = none ∧ H' = upd H T (.tup [.int (i : Nat), x]) ∧ xs[i]? = some x, fun i H => SqT K H a xs ∧ xs.length ≤ i⟩
theorem turn_enumT {P : Program} {w : World} {K : PySem.W.Frag} {elts : List Expr} {kk : Nat} {tpos : Pos} (a e it : Addr) (xs : List V) :
    Turn P w K (.Tuple elts kk tpos) (IteT K a xs) [e, it] e
      (fun i h => (∃ old, IsEnum h e it ((i : Nat) : Int) old) ∧ h.IsTupleIter it a (min i xs.length) ∧ e ≠ it ∧ e ≠ a ∧ a ≠ it) where
  mem := by simp
  obj := fun i h st b hb => by
    obtain ⟨⟨old, he⟩, ⟨o, ho, hc, hd⟩, _⟩ := st
    have e' : b = e ∨ b = it := by simpa using hb
    rcases e' with z | z
    · rw [z]; exact ⟨_, he, fun v q => nomatch q⟩
    · rw [z]; exact ⟨o, ho, fun v q => by rw [hd] at q; cases q⟩
  keep := fun i h h' st k => let ⟨⟨old, he⟩, hi, hne⟩ := st; ⟨⟨old, k e (by simp) _ he⟩, hi.at fun o q => k it (by simp) o q, hne⟩
  item := by
    intro X hP hw hK hc i pins s σ H E I hf st hg
    subst hP hw hK
    obtain ⟨⟨old, he⟩, hit, hne, hea, hai⟩ := st
    obtain ⟨hq, hlt⟩ := hg
    obtain ⟨its, rv, p, hz⟩ := I.tuple hq
    have hl := rv.length
    rw [Nat.min_eq_left (Nat.le_of_lt hlt)] at hit
    have hel : e < s.heap.objs.size := Heap.lt_size he
    have hil : it < s.heap.objs.size := by obtain ⟨_, q, _⟩ := hit; exact Heap.lt_size q
    have D := Draws.tuple (prog := X.prog) (w := X.w) (A := X.A.in1) (I.ok.hd hc) it a hai its.toArray
    refine wpAny_pyNext_enum_itemD D he ⟨hit, p⟩ (by simp; omega) hne (by simp [hne, hea]) fun u h' tk hu ho hst hT hsz hk => ?_
    refine ⟨_, rfl, wpAny_letOwnedTupleGo_enum (s := { s with heap := h', toks := tk + 1 }) ho fun h'' he' sb => ?_⟩
    have hu : its[i]? = some u := by simpa using hu
    obtain ⟨x, hx, ru⟩ : ∃ x, xs[i]? = some x ∧ RelV x u := by
      obtain ⟨x, hx⟩ : ∃ x, xs[i]? = some x := ⟨xs[i], by simp [hlt]⟩
      obtain ⟨u', hu', ru⟩ := rv.get hx
      rw [hu] at hu'; cases hu'
      exact ⟨x, hx, ru⟩
    have hT2 : h''.get? s.heap.objs.size = some { cls := .type "tuple", data := .seq #[.int i tk, u] } := (sb.2 _ (Nat.ne_of_gt hel)).trans hT
    have new : ObjOk X.prog X.w (upd H s.heap.objs.size (.tup [.int (i : Nat), x])) h'' s.heap.objs.size (.tup [.int (i : Nat), x]) :=
      ⟨by show 2 ≤ sizeLine; decide, [.int i tk, u], .cons ⟨_, rfl⟩ (.cons ru .nil), ⟨_, hT2, rfl, _, rfl⟩⟩
    have I1 : Inv X pins σ (upd H s.heap.objs.size (.tup [.int (i : Nat), x])) { s with heap := h'', toks := tk + 1 } :=
      I.turnedNew (ch := [e, it]) (fun b ob hb q => (sb.2 b (fun z => hb (by simp [z]))).trans (hk b ob (fun z => hb (by simp [z])) (fun z => hb (by simp [z])) q)) hf (Nat.le_refl _) new
    refine ⟨.ref s.heap.objs.size, _, I1, rfl, ⟨_, x, rfl, I.hok.fresh (Nat.le_refl _), rfl, hx⟩, ⟨⟨u, ?_⟩, ?_, hne, hea, hai⟩, fun b hb => ?_⟩
    · have e1 : ((i + 1 : Nat) : Int) = (i : Int) + 1 := by omega
      rw [e1]; exact he'
    · rw [Nat.min_eq_left hlt]
      exact hst.1.at fun o q => (sb.2 it (Ne.symm hne)).trans q
    · have hb' : b < s.heap.objs.size := by
        have e' : b = e ∨ b = it := by simpa using hb
        rcases e' with z | z
        · rw [z]; exact hel
        · rw [z]; exact hil
      rw [upd_ne (Nat.ne_of_lt hb')]
      exact (hf b hb).1
  done := by
    intro X hP hw hK hc i pins s σ H E I hf st hg
    subst hP hw hK
    obtain ⟨⟨old, he⟩, hit, hne, hea, hai⟩ := st
    obtain ⟨hq, hend⟩ := hg
    obtain ⟨its, rv, p, hz⟩ := I.tuple hq
    obtain ⟨f0, f1, f2, f3, f4, f5⟩ := hf it (by simp)
    have hl := rv.length
    have D := Draws.tuple (prog := X.prog) (w := X.w) (A := X.A.in1) (I.ok.hd hc) it a hai its.toArray
    rw [Nat.min_eq_right hend] at hit
    refine wpAny_pyNext_enum_endD D he ⟨?_, p⟩ fun h' eb => ⟨rfl, I.turned (t' := s.toks) (fun b o hb q => eb b o hb q) f0 f1 f3 f4 f5⟩
    have : its.toArray.size = xs.length := by simp; omega
    rw [this]; exact hit
  self := fun A i s Q E st h => let ⟨⟨_, he⟩, _⟩ := st; wpAny_pyIter_enum he h
theorem walk_enumT {K : PySem.W.Frag} {a : Addr} {xs : List V} : Walk (IteT K a xs) xs.length (fun H => SqT K H a xs) (YPair (fun i => some (.int (i : Nat))) (fun i => xs[i]?)) :=
  ⟨fun _ _ hi q => ⟨q, hi⟩, fun _ q => ⟨q, Nat.le_refl _⟩, fun i H v H' _ q y => by
    obtain ⟨T, x, h1, h2, h3, h4⟩ := y
    exact ⟨T, .int (i : Nat), x, h1, h2, h3, rfl, h4⟩⟩
theorem walk_zipT {K : PySem.W.Frag} {a b : Addr} {xs ys : List V} {n : Nat} (hn : n = min xs.length ys.length) : Walk (ItzT K a b) n (fun H => SqT K H a xs ∧ SqT K H b ys) (YPair (fun i => xs[i]?) (fun i => ys[i]?)) := by
  subst hn
  refine ⟨fun i _ hi q => ?_, fun _ q => ⟨xs, ys, q.1, q.2, by omega⟩, fun i H v H' _ q y => ?_⟩
  · have h1 : i < xs.length := by omega
    have h2 : i < ys.length := by omega
    exact ⟨xs, ys, xs[i], ys[i], q.1, q.2, by simp [h1], by simp [h2]⟩
  · obtain ⟨T, x, z, h1, h2, h3, h4, h5⟩ := y
    exact ⟨T, x, z, h1, h2, h3, h4 xs q.1, h5 ys q.2⟩
def iEn (K : PySem.W.Frag) (ta : TA) : TI := fun σ H R => ta σ H fun vs H1 => ∃ a xs, vs = [.ref a] ∧ ((SqL K H1 a xs ∧ R (Ite K a) H1) ∨ (SqT K H1 a xs ∧ R (IteT K a xs) H1))
theorem pi_en {X : Cx} {e : Expr} {ta : TA} {p pos tpos : Pos} {elts : List Expr} {kk : Nat} (hg : Gl X "enumerate") (hm : X.mg "enumerate" = none) (ha : PA X [e] ta) (hs : starEach [e] X.env = [(false, eval e X.env)] := by rfl) :
    PI X (.Tuple elts kk tpos) (.Call (.Name "enumerate" p) [e] [] pos) (iEn X.K ta) := by
  refine ⟨fun pins s σ H R I h => ?_⟩
  refine Call_ (ld_blt I hg hm boot_enumerate (PyProof.Rows.callWith_type1 (thn (ha.run pos pins s σ H _ I h) fun us s1 ⟨vs, H1, I1, r1, q1⟩ => ?_) hs rfl))
  obtain ⟨a, xs, ex, q1⟩ := q1
  subst ex
  have fp : ∀ b ∈ [s1.heap.objs.size + 1, s1.heap.objs.size], FpOk X pins H1 b := fun b hb => by
    have e' : b = s1.heap.objs.size + 1 ∨ b = s1.heap.objs.size := by simpa using hb
    have hle : s1.heap.objs.size ≤ b := by rcases e' with z | z <;> omega
    exact I1.fpOk hle (I1.hok.fresh hle)
  cases r1 with
  | cons r rr =>
    cases rr
    cases r
    rcases q1 with ⟨hq, q⟩ | ⟨hq, q⟩
    · obtain ⟨its, rv, p', hz⟩ := I1.list hq
      refine call_enumerate_list p'.isList fun h' he hit hsz hk => wpAny_pyIter_enum he ?_
      exact ⟨s1.heap.objs.size + 1, [s1.heap.objs.size + 1, s1.heap.objs.size], _, _, H1, rfl, I1.kept (t' := s1.toks) hk, turn_enum a (s1.heap.objs.size + 1) s1.heap.objs.size, ⟨⟨.none, he⟩, hit, Nat.succ_ne_self _⟩, fp, q⟩
    · obtain ⟨its, rv, p', hz⟩ := I1.tuple hq
      have hlt : a < s1.heap.objs.size := by obtain ⟨o, ho, _⟩ := id p'; exact Heap.lt_size ho
      refine call_enum_of (begins_tuple a its.toArray) p' fun h' he hit hk => wpAny_pyIter_enum he ?_
      exact ⟨s1.heap.objs.size + 1, [s1.heap.objs.size + 1, s1.heap.objs.size], _, _, H1, rfl, I1.kept (t' := s1.toks) hk, turn_enumT a (s1.heap.objs.size + 1) s1.heap.objs.size xs,
        ⟨⟨.none, he⟩, by rw [Nat.zero_min]; exact ⟨_, hit, rfl, rfl⟩, Nat.succ_ne_self _, Nat.ne_of_gt (Nat.lt_succ_of_lt hlt), Nat.ne_of_lt hlt⟩, fp, q⟩

/-! ### by data -/
def enumDs (ds : List D) : List D := (List.range ds.length).map fun i => .tup [.int (i : Nat), ds[i]?.getD .non]
def zipDs (xs ys : List D) : List D := (List.range (min xs.length ys.length)).map fun i => .tup [xs[i]?.getD .non, ys[i]?.getD .non]
def enI (fs : FA) : FI := fun env => match fs env with
  | some (.ok [r] e) => match peek e r with
    | some (.lst ds) => some (.ok (opsOf r) (enumDs ds) e)
    | some (.tup ds) => some (.ok (opsOf r) (enumDs ds) e)
    | _ => none
  | some (.ex c) => some (.ex c)
  | _ => none
def zipI (fs : FA) : FI := fun env => match fs env with
  | some (.ok [r1, r2] e) => match peek e r1, peek e r2 with
    | some (.lst xs), some (.lst ys) => some (.ok (opsOf r1 ++ opsOf r2) (zipDs xs ys) e)
    | some (.tup xs), some (.tup ys) => some (.ok [] (zipDs xs ys) e)
    | _, _ => none
  | some (.ex c) => some (.ex c)
  | _ => none
theorem getD_of {α : Type} {l : List α} {i : Nat} {d : α} (h : i < l.length) : l[i]?.getD d = l[i] := by simp [h]
section
variable {T : Tb} {F G0 : Hp} {ds es : List D} {vs ws : List V} {a b : Addr}
theorem itOk_enum (hq : SqL T.K F a vs) (r : Reps T G0 ds vs) (g : Same G0 F) : ItOk T (Ite T.K a) F G0 (enumDs ds) := by
  refine itOk_pair (walk_enum (K := T.K) (a := a) (xs := vs)) (fun H s => s.seq hq) g (by simp [enumDs, Reps.length r]) fun i d hd => ?_
  unfold enumDs at hd
  rw [List.getElem?_map] at hd
  cases k : (List.range ds.length)[i]? with
  | none => rw [k] at hd; cases hd
  | some j =>
    rw [k] at hd; cases hd
    obtain ⟨hi, e⟩ := List.getElem?_eq_some_iff.mp k
    simp at hi e
    subst e
    refine ⟨_, _, rfl, fun x y hx hy => ?_⟩
    cases hx
    exact ⟨rep_int, r.at (by simp [hi]) hy⟩
theorem itOk_enumT (hq : SqT T.K F a vs) (r : Reps T G0 ds vs) (g : Same G0 F) : ItOk T (IteT T.K a vs) F G0 (enumDs ds) := by
  refine itOk_pair (walk_enumT (K := T.K) (a := a) (xs := vs)) (fun H s => Same.sqT s hq) g (by simp [enumDs, Reps.length r]) fun i d hd => ?_
  unfold enumDs at hd
  rw [List.getElem?_map] at hd
  cases k : (List.range ds.length)[i]? with
  | none => rw [k] at hd; cases hd
  | some j =>
    rw [k] at hd; cases hd
    obtain ⟨hi, e⟩ := List.getElem?_eq_some_iff.mp k
    simp at hi e
    subst e
    refine ⟨_, _, rfl, fun x y hx hy => ?_⟩
    cases hx
    exact ⟨rep_int, r.at (by simp [hi]) hy⟩
theorem zip_at {i : Nat} {d : D} (r : Reps T G0 ds vs) (r2 : Reps T G0 es ws) (hd : (zipDs ds es)[i]? = some d) : ∃ d1 d2, d = .tup [d1, d2] ∧ ∀ x y, vs[i]? = some x → ws[i]? = some y → Rep T G0 d1 x ∧ Rep T G0 d2 y := by
  unfold zipDs at hd
  rw [List.getElem?_map] at hd
  cases k : (List.range (min ds.length es.length))[i]? with
  | none => rw [k] at hd; cases hd
  | some j =>
    rw [k] at hd; cases hd
    obtain ⟨hi, e⟩ := List.getElem?_eq_some_iff.mp k
    simp at hi e
    subst e
    have l1 : i < ds.length := by omega
    have l2 : i < es.length := by omega
    exact ⟨_, _, rfl, fun x y hx hy => ⟨r.at (by rw [getD_of l1]; simp [l1]) hx, r2.at (by rw [getD_of l2]; simp [l2]) hy⟩⟩
theorem itOk_zip (hq : SqL T.K F a vs) (hq2 : SqL T.K F b ws) (r : Reps T G0 ds vs) (r2 : Reps T G0 es ws) (g : Same G0 F) : ItOk T (Itz T.K a b) F G0 (zipDs ds es) :=
  itOk_pair (walk_zip (K := T.K) (a := a) (b := b) (xs := vs) (ys := ws) rfl) (fun H s => ⟨s.seq hq, s.seq hq2⟩) g (by simp [zipDs, Reps.length r, Reps.length r2]) fun i d hd => zip_at r r2 hd
theorem itOk_zipT (hq : SqT T.K F a vs) (hq2 : SqT T.K F b ws) (r : Reps T G0 ds vs) (r2 : Reps T G0 es ws) (g : Same G0 F) : ItOk T (ItzT T.K a b) F G0 (zipDs ds es) :=
  itOk_pair (walk_zipT (K := T.K) (a := a) (b := b) (xs := vs) (ys := ws) rfl) (fun H s => ⟨Same.sqT s hq, Same.sqT s hq2⟩) g (by simp [zipDs, Reps.length r, Reps.length r2]) fun i d hd => zip_at r r2 hd
end
section
variable {X : Cx} {c : Tc} {E : XK} {pos tpos : Pos} {e a b : Expr} {p q : Bool} {fs : FA} {px : Pos} {elts : List Expr} {kk : Nat}
theorem si_enum (hm : X.mg "enumerate" = none) (ha : SA X c E p [e] fs) (hg : Gl X "enumerate" := by rfl) (hs : starEach [e] X.env = [(false, eval e X.env)] := by rfl) : SI X c E p (.Tuple elts kk tpos) (.Call (.Name "enumerate" px) [e] [] pos) (enI fs) :=
  ⟨PI.weak (pi_en hg hm ha.run hs) fun σ H R h => by
    obtain ⟨B, G, ios, env, S, h⟩ := h
    refine ⟨B, G, ios, env, S, ?_⟩
    unfold enI at h
    generalize fs env = o at h ⊢
    cases o with
    | none => exact h.elim
    | some u => cases u with
      | ex c => exact h
      | ok rs e1 =>
        intro G1 H1 vs S1 sg1 sp1 V1
        cases rs with
        | nil => exact h.elim
        | cons r rs => cases rs with
          | cons _ _ => exact h.elim
          | nil =>
            cases vs with
            | nil => exact V1.elim
            | cons v vs => cases vs with
              | cons _ _ => exact V1.2.elim
              | nil =>
                have V2 := V1.1
                dsimp only at h
                cases k : peek e1 r with
                | none => simp only [k] at h; exact h.elim
                | some d =>
                  simp only [k] at h
                  cases d with
                  | lst ds =>
                    obtain ⟨l, ws, e, _, h2, h3⟩ := V2.lst S1 k (Fr := H1) S1.gh (fun _ _ _ _ => rfl)
                    subst e
                    refine ⟨l, ws, rfl, .inl ⟨h2, h G1 H1 _ S1 sg1 sp1 fun Fr hF ho => ?_⟩⟩
                    obtain ⟨l', ws', e, h2', _, h3'⟩ := V2.lst S1 k hF ho
                    cases e
                    exact itOk_enum h2' h3' hF
                  | tup ds =>
                    obtain ⟨l, ws, e, h2, h3⟩ := V2.tup S1 k
                    subst e
                    refine ⟨l, ws, rfl, .inr ⟨Same.sqT S1.gh h2, h G1 H1 _ S1 sg1 sp1 fun Fr hF ho => ?_⟩⟩
                    exact itOk_enumT (Same.sqT hF h2) h3 hF
                  | _ => exact h.elim⟩
theorem si_zip (hm : X.mg "zip" = none) (ha : SA X c E p [a, b] fs) (hg : Gl X "zip" := by rfl) (hs : starEach [a, b] X.env = (false, eval a X.env) :: starEach [b] X.env := by rfl) (hpl : (backTo pos (starEach [b] X.env)).any (·.1) = false := by rfl) : SI X c E p (.Tuple elts kk tpos) (.Call (.Name "zip" px) [a, b] [] pos) (zipI fs) :=
  ⟨PI.weak (pi_zipA hg hm ha.run hs hpl) fun σ H R h => by
    obtain ⟨B, G, ios, env, S, h⟩ := h
    refine ⟨B, G, ios, env, S, ?_⟩
    unfold zipI at h
    generalize fs env = o at h ⊢
    cases o with
    | none => exact h.elim
    | some u => cases u with
      | ex c => exact h
      | ok rs e1 =>
        intro G1 H1 vs S1 sg1 sp1 V1
        match rs, vs, V1 with
        | [], _, _ => exact h.elim
        | [_], _, _ => exact h.elim
        | _ :: _ :: _ :: _, _, _ => exact h.elim
        | [r, r'], [], V => exact V.elim
        | [r, r'], [_], V => exact V.2.elim
        | [r, r'], _ :: _ :: _ :: _, V => exact V.2.2.elim
        | [r, r'], [v, v'], V =>
          dsimp only at h
          cases k : peek e1 r with
          | none => simp only [k] at h; exact h.elim
          | some d =>
            cases k2 : peek e1 r' with
            | none => simp only [k, k2] at h; exact h.elim
            | some d' =>
              simp only [k, k2] at h
              cases d with
              | lst ds =>
                cases d' with
                | lst es =>
                  obtain ⟨l, ws, e, _, h2, h3⟩ := V.1.lst S1 k (Fr := H1) S1.gh (fun _ _ _ _ => rfl)
                  obtain ⟨l', ws', e', _, h2', h3'⟩ := V.2.1.lst S1 k2 (Fr := H1) S1.gh (fun _ _ _ _ => rfl)
                  subst e e'
                  refine ⟨l, l', ws, ws', rfl, .inl ⟨h2, h2', h G1 H1 _ S1 sg1 sp1 fun Fr hF ho => ?_⟩⟩
                  obtain ⟨_, _, e, m2, _, m3⟩ := V.1.lst S1 k hF (fun i hi => ho i (List.mem_append_left _ hi))
                  cases e
                  obtain ⟨_, _, e, n2, _, n3⟩ := V.2.1.lst S1 k2 hF (fun i hi => ho i (List.mem_append_right _ hi))
                  cases e
                  exact itOk_zip m2 n2 m3 n3 hF
                | _ => exact h.elim
              | tup ds =>
                cases d' with
                | tup es =>
                  obtain ⟨l, ws, e, h2, h3⟩ := V.1.tup S1 k
                  obtain ⟨l', ws', e', h2', h3'⟩ := V.2.1.tup S1 k2
                  subst e e'
                  refine ⟨l, l', ws, ws', rfl, .inr ⟨Same.sqT S1.gh h2, Same.sqT S1.gh h2', h G1 H1 _ S1 sg1 sp1 fun Fr hF ho => ?_⟩⟩
                  exact itOk_zipT (Same.sqT hF h2) (Same.sqT hF h2') h3 h3' hF
                | _ => exact h.elim
              | _ => exact h.elim⟩
end
end Ev
namespace Ev
open PySem PySem.Spec L2
open C8 (InsC call_isC)

/-! ### isinstance -/
def tyD : D → Option String
  | .non => some "NoneType"
  | .bl _ => some "bool"
  | .int _ => some "int"
  | .str _ => some "str"
  | .tup _ => some "tuple"
  | .lst _ => some "list"
  | .dct _ _ => some "dict"
  | _ => none
def isiD (T : String) : D → Option Val := fun d => (tyD d).bind fun t => (kitB t T).map fun b => .sh (.bl b)
def isiC (cl : Nat) : D → Option Val
  | .ins k _ => if k = cl then some (.sh (.bl true)) else none
  | _ => none
theorem RepT.ty {T : Tb} {G H : Hp} {d : D} {v : V} {t : String} (s : Same G H) (h : RepT T G H d v) (e : tyD d = some t) : TyX T.K H v (.type t) := by
  have h := h.full s
  cases d with
  | non => cases e; simp only [Rep] at h; subst h; exact .base .non
  | bl b => cases e; simp only [Rep] at h; subst h; exact .base (.bl b)
  | int i => cases e; simp only [Rep] at h; subst h; exact .base (.int i)
  | str x => cases e; simp only [Rep] at h; subst h; exact .base (.str x)
  | tup ds =>
    cases e; simp only [Rep] at h
    obtain ⟨a, vs, rfl, h1, _⟩ := h
    rcases h1 with (h1 | ⟨o, h1⟩) | ⟨o, its, n, h1, h2, _⟩
    · exact .base (.tup h1)
    · exact .fTuple h1
    · exact .kTuple h1 h2
  | lst ds =>
    cases e; simp only [Rep] at h
    obtain ⟨a, vs, rfl, h1, _⟩ := h
    exact .base (.lst h1)
  | dct a b =>
    cases e; simp only [Rep] at h
    obtain ⟨a, rfl, _, _, h1⟩ := h
    exact .base (.dK h1)
  | ins c ds => cases e
  | scr a => cases e
section
variable {X : Cx} {c : Tc} {E : XK} {pos p2 px : Pos} {e : Expr} {p : Bool} {f : F}
theorem se_isi {T : Str} {n : String} (he : SE X c E p e f) (hv : bootBuiltins T = some (.type n)) (hm : X.mg "isinstance" = none) (hmT : X.mg T = none) (hg : Gl X "isinstance" := by rfl) (hgT : Gl X T := by rfl) (hn : T ≠ "__name__" := by decide) (hdb : (T == ("__debug__" : Str)) = false := by decide)
    (hs : starEach [e, .Name T p2] X.env = (false, eval e X.env) :: starEach [.Name T p2] X.env := by rfl) (hpl : (backTo pos (starEach [.Name T p2] X.env)).any (·.1) = false := by rfl) : SE X c E p (.Call (.Name "isinstance" px) [e, .Name T p2] [] pos) (unF (isiD n) f) := by
  refine ⟨PE.weak (pe_callB call_isi hg hm (by rfl) (pa_cons he.run (pa_cons (pe_bltn (v := .ty n) hgT hmT hv rfl hn hdb) pa_nil) hs) (by decide) (by decide) hs hpl) fun σ H Q h => rd_mono (un_core h) fun x H1 h => ?_⟩
  obtain ⟨G, d, r, s, h1, h3, h4⟩ := h
  unfold isiD at h3
  cases k : tyD d with
  | none => rw [k] at h3; cases h3
  | some t =>
    rw [k] at h3
    simp only [Option.bind] at h3
    cases k2 : kitB t n with
    | none => rw [k2] at h3; cases h3
    | some b =>
      rw [k2] at h3
      cases h3
      exact ⟨x, .ty n, .type t, .type n, b, rfl, .ty n, h1.ty (T := tb X c) s k, kit_ty k2, h4 G H1 _ (Grow.refl s) (rep_bl (T := tb X c) (G := G))⟩
theorem se_isiC {x : Str} {C : Addr} {cl : Nat} (he : SE X c E p e f) (hC : InsC X.K C) (hc : (c.ct cl).1 = C) (hm : X.mg "isinstance" = none) (hmT : X.mg x = some (.ref C)) (hg : Gl X "isinstance" := by rfl) (hgT : Gl X x := by rfl) (hdb : (x == ("__debug__" : Str)) = false := by decide)
    (hs : starEach [e, .Name x p2] X.env = (false, eval e X.env) :: starEach [.Name x p2] X.env := by rfl) (hpl : (backTo pos (starEach [.Name x p2] X.env)).any (·.1) = false := by rfl) : SE X c E p (.Call (.Name "isinstance" px) [e, .Name x p2] [] pos) (unF (isiC cl) f) := by
  refine ⟨PE.weak (pe_callB (call_isC hC) hg hm (by rfl) (pa_cons he.run (pa_cons (pe_glob (v := .ref C) hgT hmT rfl hdb) pa_nil) hs) (by decide) (by decide) hs hpl) fun σ H Q h => rd_mono (un_core h) fun x H1 h => ?_⟩
  obtain ⟨G, d, r, s, h1, h3, h4⟩ := h
  cases d with
  | ins k ds =>
    simp only [isiC] at h3
    split at h3
    · rename_i hk
      subst hk
      cases h3
      have h1 := h1.full s
      simp only [Rep] at h1
      obtain ⟨a, dx, fs, rfl, h5, _⟩ := h1
      exact ⟨a, dx, fs, rfl, by rw [← hc]; exact h5, h4 G H1 _ (Grow.refl s) (rep_bl (T := tb X c) (G := G))⟩
    · cases h3
  | _ => cases h3

/-! ### list(range(n)) -/
def lrgD : D → Option Val
  | .int n => if n ≤ 1000000 ∧ -1000000 ≤ n then some (.fr (.lst (rangeD 0 n))) else none
  | _ => none
theorem reps_range {T : Tb} {G : Hp} {lo : Int} : ∀ {l : List Nat}, Reps T G (l.map fun (i : Nat) => D.int (lo + (i : Int))) (l.map fun (i : Nat) => V.int (lo + (i : Int)))
  | [] => rfl
  | i :: l => ⟨_, _, rfl, rep_int, reps_range⟩
theorem se_listRg (hc : X.calm = true) (he : SE X c E p e f) (hm : X.mg "list" = none) (hm2 : X.mg "range" = none) (hg : Gl X "list" := by rfl) (hg2 : Gl X "range" := by rfl) (na : starEach [e] X.env = (false, eval e X.env) :: starEach [] X.env := by rfl)
    (na2 : starEach [.Call (.Name "range" p2) [e] [] px] X.env = (false, eval (.Call (.Name "range" p2) [e] [] px) X.env) :: starEach [] X.env := by rfl) {p3 : Pos} : SE X c E p (.Call (.Name "list" p3) [.Call (.Name "range" p2) [e] [] px] [] pos) (unF lrgD f) := by
  refine ⟨PE.weak (pe_listRg hc hg hm (prg_1 hg2 hm2 he.run na) na2) fun σ H Q h => rd_mono (un_core h) fun x H1 h => ?_⟩
  obtain ⟨G, d, r, s, h1, h3, h4⟩ := h
  cases d with
  | int n =>
    simp only [lrgD] at h3
    split at h3
    · rename_i hn
      cases h3
      refine ⟨n, h1.int, ⟨by omega, by omega, by omega, by omega, by omega⟩, fun q hq => ?_⟩
      have rr : Reps (tb X c) G (rangeD 0 n) (rgV 0 n) := reps_range
      obtain ⟨g, ro⟩ := res_lst (T := tb X c) s hq rr
      exact h4 _ _ _ g ro
    · cases h3
  | _ => cases h3

/-! ### e.f -/
theorem lookup_at {f : Str} : ∀ {fs : List (Str × V)}, fs.lookup f = ((fs.map (·.1)).findIdx? (f == ·)).bind fun j => (fs.map (·.2))[j]?
  | [] => rfl
  | (k, v) :: fs => by
    rw [List.lookup_cons, List.map_cons, List.findIdx?_cons]
    cases q : f == k with
    | true => rfl
    | false =>
      rw [lookup_at (fs := fs)]
      simp only [Bool.false_eq_true, if_false]
      cases z : (fs.map (·.1)).findIdx? (f == ·) with
      | none => rfl
      | some j => simp
def fldD (cl j : Nat) : D → Option Val
  | .ins k ds => if k = cl then (ds[j]?).map .sh else none
  | _ => none
theorem se_fld {fl : Str} {C : Addr} {cl j : Nat} {ns : List Str} (he : SE X c E p e f) (hC : Cls X.K C) (hN : NoAttr X.K C fl) (hc : c.ct cl = (C, ns)) (hj : ns.findIdx? (fl == ·) = some j) (hb : attributeBase e fl X.env (eval e X.env) = eval e X.env := by rfl) : SE X c E p (.Attribute e fl pos) (unF (fldD cl j) f) := by
  refine ⟨PE.weak (pe_fld he.run hb) fun σ H Q h => rd_mono (un_core h) fun x H1 h => ?_⟩
  obtain ⟨G, d, r, s, h1, h3, h4⟩ := h
  cases d with
  | ins k ds =>
    simp only [fldD] at h3
    split at h3
    · rename_i hk
      subst hk
      have h1 := h1.full s
      cases z : ds[j]? with
      | none => rw [z] at h3; cases h3
      | some d =>
        rw [z] at h3; cases h3
        rename_i h0
        rcases h0 with h0 | ⟨_, _, _, _, h0, _⟩
        · simp only [Rep] at h0
          obtain ⟨a, dx, fs, rfl, h5, h6, h7⟩ := h0
          obtain ⟨v, h8, h9⟩ := Reps.at' h7 z
          have h5 : G a = some (.ins (c.ct k).1 dx fs) := h5
          have h6 : fs.map (·.1) = (c.ct k).2 := h6
          rw [hc] at h5 h6
          refine ⟨a, C, dx, fs, v, rfl, ?_, hC, hN, ?_, h4 G H1 v (Grow.refl s) h9⟩
          · exact s _ _ h5
          · rw [lookup_at, h6, hj]; exact h8
        · cases h0
    · cases h3
  | _ => cases h3
end
end Ev
namespace Ev
open PySem PySem.Spec L2

/-! ### a list of one's own is written -/
def lstAt (env : List Ent) (i : Nat) : Option (List D) := match env[i]? with
  | some (.own (.lst xs)) => some xs
  | some (.io (.lst xs)) => some xs
  | _ => none
def lstSet (env : List Ent) (i : Nat) (ys : List D) : List Ent := match env[i]? with
  | some (.own _) => env.set i (.own (.lst ys))
  | some (.io _) => env.set i (.io (.lst ys))
  | _ => env
section
variable {T : Tb} {B G G' H H' : Hp} {ios : Fx} {env env' : List Ent} {σ : L2.St}
theorem Sep.lstAt (S : Sep T B G H ios env σ) {i : Nat} {xs : List D} (h : Ev.lstAt env i = some xs) : ∃ a vs, σ[i]? = some (some (.ref a)) ∧ H a = some (.lst vs) ∧ Reps T G xs vs ∧ G a = none ∧ B a = none ∧ OwnAt env σ i a := by
  unfold Ev.lstAt at h
  cases z : env[i]? with
  | none => rw [z] at h; cases h
  | some e =>
    rw [z] at h
    have q := S.ent i e z
    cases e with
    | own d =>
      cases d with
      | lst ys =>
        cases h
        obtain ⟨a, h1, vs, k1, k2, k3, k4⟩ := q
        exact ⟨a, vs, h1, k1, k2, k3, k4, ⟨_, z, rfl⟩, h1⟩
      | _ => cases h
    | io d =>
      cases d with
      | lst ys =>
        cases h
        obtain ⟨a, h1, ⟨vs, k1, k2, k3, k4⟩, _⟩ := q
        exact ⟨a, vs, h1, k1, k2, k3, k4, ⟨_, z, rfl⟩, h1⟩
      | _ => cases h
    | _ => cases h
theorem Sep.write (S : Sep T B G H ios env σ) {i : Nat} {xs ys : List D} (h : Ev.lstAt env i = some xs) {a : Addr} (ha : σ[i]? = some (some (.ref a))) {ws : List V} (r : Reps T G ys ws) : Sep T B G (upd H a (.lst ws)) ios (lstSet env i ys) σ := by
  obtain ⟨a', vs, h1, h2, h3, h4, h5, h6⟩ := S.lstAt h
  rw [ha] at h1; cases h1
  have sm : ∀ {Z : Hp}, Same Z H → Z a = none → Same Z (upd H a (.lst ws)) := fun {Z} s z b u e => by rw [upd_ne (ne_of_none e z)]; exact s b u e
  have hne : ∀ j b, j ≠ i → OwnAt env σ j b → b ≠ a := fun j b n o e => by
    subst e
    exact S.apart j i _ n o h6
  have hget : ∀ j, j ≠ i → (lstSet env i ys)[j]? = env[j]? := fun j n => by
    unfold lstSet
    split
    · rw [List.getElem?_set_ne (Ne.symm n)]
    · rw [List.getElem?_set_ne (Ne.symm n)]
    · rfl
  have own2 : ∀ j b, OwnAt (lstSet env i ys) σ j b → OwnAt env σ j b := fun j b o => by
    obtain ⟨⟨e, q1, q2⟩, q3⟩ := o
    by_cases w : j = i
    · subst w
      rw [ha] at q3; cases q3
      exact h6
    · rw [hget j w] at q1
      exact ⟨⟨e, q1, q2⟩, q3⟩
  refine ⟨?_, sm S.gh h4, sm S.bh h5, fun j e q => ?_, fun j l b n o1 o2 => S.apart j l b n (own2 j b o1) (own2 l b o2), S.hd⟩
  · have : (lstSet env i ys).length = env.length := by
      unfold lstSet
      split <;> simp
    rw [this]; exact S.len
  · by_cases w : j = i
    · subst w
      unfold Ev.lstAt at h
      unfold lstSet at q
      cases z : env[j]? with
      | none => rw [z] at h; cases h
      | some e0 =>
        have hj := (List.getElem?_eq_some_iff.mp z).1
        have c := S.ent j e0 z
        rw [z] at h q
        cases e0 with
        | own d =>
          dsimp only at q
          rw [List.getElem?_set_self hj] at q; cases q
          exact ⟨a, ha, ws, upd_same, r, h4, h5⟩
        | io d =>
          dsimp only at q
          rw [List.getElem?_set_self hj] at q; cases q
          obtain ⟨b, c1, _, c3⟩ := c
          rw [ha] at c1; cases c1
          exact ⟨a, ha, ⟨ws, upd_same, r, h4, h5⟩, c3⟩
        | _ => cases h
    · rw [hget j w] at q
      have c := S.ent j e q
      have ne : ∀ b, e.mine = true → σ[j]? = some (some (.ref b)) → b ≠ a := fun b m z => hne j b w ⟨⟨e, q, m⟩, z⟩
      cases e with
      | no => trivial
      | sh d => exact c
      | own d =>
        obtain ⟨b, c1, c2⟩ := c
        refine ⟨b, c1, ?_⟩
        cases d with
        | lst ds => obtain ⟨vs', k1, k2⟩ := c2; exact ⟨vs', by rw [upd_ne (ne b rfl c1)]; exact k1, k2⟩
        | _ => exact c2.elim
      | io d =>
        obtain ⟨b, c1, c2, c3⟩ := c
        refine ⟨b, c1, ?_, c3⟩
        cases d with
        | lst ds => obtain ⟨vs', k1, k2⟩ := c2; exact ⟨vs', by rw [upd_ne (ne b rfl c1)]; exact k1, k2⟩
        | _ => exact c2.elim
      | slf cl ns ds =>
        obtain ⟨b, dx, fs, c1, k1, k2⟩ := c
        exact ⟨b, dx, fs, c1, by rw [upd_ne (ne b rfl c1)]; exact k1, k2⟩
end
/-! ### methods of lists -/
/-- op: the list, the arguments → the list afterwards, what comes out -/
abbrev Mop := List D → List D → Option (List D × D)
def isLst (env : List Ent) (i : Nat) : Bool := (lstAt env i).isSome
def mtF (i : Nat) (op : Mop) (fs : FA) : F := fun env => if isLst env i = true then bA (fs env) fun rs e1 => match stores e1 rs with
    | none => none
    | some (ds, e2) => match lstAt e2 i with
      | none => none
      | some xs => (op xs ds).map fun yd => .ok (.sh yd.2) (lstSet e2 i yd.1)
  else none
/-- what a method of a list does -/
def rMop (T : Tb) (op : Mop) : V → List V → Hp → VK → Prop := fun x vs H Q => ∃ G a us xs ds ys d, x = .ref a ∧ Same G H ∧ H a = some (.lst us) ∧ Reps T G xs us ∧ Reps T G ds vs ∧ op xs ds = some (ys, d) ∧ ∀ v ws, Rep T G d v → Reps T G ys ws → Q v (upd H a (.lst ws))
theorem MtR.weak {X : Cx} {id : String} {r r' : V → List V → Hp → VK → Prop} (h : MtR X id r) (w : ∀ x vs H Q, r' x vs H Q → r x vs H Q) : MtR X id r' := fun pins s σ H x xs v us Q I rx rv hq => h pins s σ H x xs v us Q I rx rv (w x xs H Q hq)
section
variable {X : Cx} {c : Tc} {E : XK} {cpos apos px : Pos} {e : Expr} {es : List Expr} {p : Bool} {fs : FA} {op : Mop} {x name : Str} {id : String} {i : Nat}
theorem var_pe (hN : X.N[i]? = some x := by rfl) (hv : Vis X.env.scope x := by first | exact Or.inl rfl | exact Or.inr (Or.inl rfl) | exact Or.inr (Or.inr rfl)) (hd : (x == ("__debug__" : Str)) = false := by decide)
    (hcd : (x == ("__classdict__" : Str)) = false := by decide) : PE X (.Name x px) (tVar i) := pe_var (i := i) hN hv hd hcd
theorem se_mt (slot : Slot "list" name id) (hty : typeOf (.builtin id) = pure (.type "method_descriptor")) (hm : MtR X id (rMop (tb X c) op)) (ha : SA X c E p (e :: es) fs) (hv : PE X (.Name x px) (tVar i))
    (hbase : attributeBase (.Name x px) name X.env (eval (.Name x px) X.env) = eval (.Name x px) X.env := by rfl)
    (hfew : ((backTo cpos (starEach (e :: es) X.env)).all (fun x => !x.1) && (backToKw cpos (keywordEach [] X.env)).all (fun x => x.1.isSome)
      && decide ((e :: es).length + ([] : List Keyword).length + (if ([] : List Keyword).isEmpty then 0 else 1) < 30)) = true := by rfl)
    (hline : (apos.endLine == cpos.line) = true := by rfl) (hs : starEach (e :: es) X.env = (false, eval e X.env) :: starEach es X.env := by rfl) (hplain : (backTo cpos (starEach es X.env)).any (·.1) = false := by rfl) :
    SE X c E false (.Call (.Attribute (.Name x px) name apos) (e :: es) [] cpos) (mtF i op fs) := by
  refine ⟨PE.weak (pe_bm F.plainAttrs_list slot hty hm hv ha.run hbase hfew hline hs hplain) fun σ H Q h => ?_⟩
  obtain ⟨B, G, ios, env, S, hq⟩ := h
  unfold mtF at hq
  by_cases hl : isLst env i = true
  · rw [if_pos hl] at hq
    unfold isLst at hl
    cases k0 : lstAt env i with
    | none => rw [k0] at hl; cases hl
    | some xs0 =>
      obtain ⟨a, vs0, h1, h2, _⟩ := S.lstAt k0
      refine ⟨.ref a, h1, .inl ⟨rfl, vs0, SqL.of h2⟩, B, G, ios, env, S, PostA.bind (p2 := false) (by rw [Bool.and_false]; exact hq) fun rs e1 G1 H1 vs k S1 sg1 V1 hq1 _ => ?_⟩
      cases k2 : stores e1 rs with
      | none => rw [k2] at hq1; exact hq1.elim
      | some u =>
        obtain ⟨ds, e2⟩ := u
        simp only [k2] at hq1
        obtain ⟨G2, S2, sg2, r2⟩ := S1.stores V1 k2
        cases k3 : lstAt e2 i with
        | none => rw [k3] at hq1; exact hq1.elim
        | some xs =>
          simp only [k3] at hq1
          cases k4 : op xs ds with
          | none => rw [k4] at hq1; exact hq1.elim
          | some yd =>
            rw [k4] at hq1
            obtain ⟨a', us, g1, g2, g3, g4, g5, g6⟩ := S2.lstAt k3
            rw [h1] at g1; cases g1
            refine ⟨G2, a, us, xs, ds, yd.1, yd.2, rfl, S2.gh, g2, g3, r2, k4, fun v ws rd rw' => ?_⟩
            exact hq1 G2 _ v (S2.write k3 h1 rw') (sg2) (by intro h; cases h) rd
  · rw [if_neg hl] at hq; exact hq.elim
theorem reps1 {T : Tb} {G : Hp} {d : D} {vs : List V} (h : Reps T G [d] vs) : ∃ v, vs = [v] ∧ Rep T G d v := by
  simp only [Reps] at h
  obtain ⟨v, r, rfl, h1, rfl⟩ := h
  exact ⟨v, rfl, h1⟩
def appM : Mop := fun xs ds => match ds with
  | [d] => if xs.length < 1000000 then some (xs ++ [d], .non) else none
  | _ => none
theorem rep_non {T : Tb} {G : Hp} : Rep T G .non .non := by simp [Rep]
theorem em_append : MtR X "list.append" (rMop (tb X c) appM) := MtR.weak mt_append fun x vs H Q h => by
  obtain ⟨G, a, us, xs, ds, ys, d, rfl, s, h1, h2, h3, h4, h5⟩ := h
  unfold appM at h4
  split at h4
  · rename_i d0
    split at h4
    · rename_i hl
      cases h4
      obtain ⟨v, rfl, r⟩ := reps1 h3
      exact ⟨a, us, v, rfl, rfl, h1, by rw [Reps.length h2, sizeLine_eq]; omega, h5 _ _ rep_non (h2.app ⟨v, [], rfl, r, rfl⟩)⟩
    · cases h4
  · cases h4
def extM : Mop := fun xs ds => match ds with
  | [.lst zs] => if xs.length + zs.length ≤ 1000000 then some (xs ++ zs, .non) else none
  | _ => none
theorem em_extend : MtR X "list.extend" (rMop (tb X c) extM) := MtR.weak mt_extend fun x vs H Q h => by
  obtain ⟨G, a, us, xs, ds, ys, d, rfl, s, h1, h2, h3, h4, h5⟩ := h
  unfold extM at h4
  split at h4
  · rename_i zs
    split at h4
    · rename_i hl
      cases h4
      obtain ⟨v, rfl, r⟩ := reps1 h3
      simp only [Rep] at r
      obtain ⟨b, ws, rfl, r1, r2⟩ := r
      exact ⟨a, b, us, ws, rfl, rfl, h1, s _ _ r1, by rw [Reps.length h2, Reps.length r2]; exact million hl, h5 _ _ rep_non (h2.app r2)⟩
    · cases h4
  · cases h4
theorem Reps.erase {T : Tb} {G : Hp} : ∀ {ds : List D} {vs : List V} (n : Nat), Reps T G ds vs → Reps T G (ds.eraseIdx n) (vs.eraseIdx n)
  | [], vs, n, r => by
    have : vs = [] := by simpa [Reps] using r
    subst this; exact r
  | d :: ds, vs, 0, r => by
    simp only [Reps] at r
    obtain ⟨v, vr, rfl, r1, r2⟩ := r
    exact r2
  | d :: ds, vs, n + 1, r => by
    simp only [Reps] at r
    obtain ⟨v, vr, rfl, r1, r2⟩ := r
    exact ⟨v, vr.eraseIdx n, rfl, r1, Reps.erase n r2⟩
theorem erase_map {α β : Type} {f : α → β} : ∀ {l : List α} {n : Nat}, (l.map f).eraseIdx n = (l.eraseIdx n).map f
  | [], _ => rfl
  | _ :: _, 0 => rfl
  | a :: l, n + 1 => by
    show f a :: (l.map f).eraseIdx n = f a :: (l.eraseIdx n).map f
    rw [erase_map]
def popM : Mop := fun xs ds => match ds with
  | [.int i] => if 0 ≤ i ∧ i < 1000000 then (xs[i.toNat]?).map fun d => (xs.eraseIdx i.toNat, d) else none
  | _ => none
theorem em_pop : MtR X "list.pop" (rMop (tb X c) popM) := MtR.weak mt_popAt fun x vs H Q h => by
  obtain ⟨G, a, us, xs, ds, ys, d, rfl, s, h1, h2, h3, h4, h5⟩ := h
  unfold popM at h4
  split at h4
  · rename_i i
    split at h4
    · rename_i hl
      cases k : xs[i.toNat]? with
      | none => rw [k] at h4; cases h4
      | some d0 =>
        rw [k] at h4
        cases h4
        obtain ⟨v, rfl, r⟩ := reps1 h3
        simp only [Rep] at r
        subst r
        obtain ⟨w, q1, q2⟩ := Reps.at' h2 k
        have hlt := (List.getElem?_eq_some_iff.mp q1).1
        have e : seqIndex? i us.length = some i.toNat := by
          have h6 : ixN us.length i = some i.toNat := by unfold ixN; rw [if_pos hl.1, if_pos (by omega)]
          exact (ixN_seq h6).1
        exact ⟨a, us, i, i.toNat, w, rfl, rfl, h1, by omega, by omega, e, q1, h5 _ _ q2 (h2.erase _)⟩
    · cases h4
  · cases h4
def remM : Mop := fun xs ds => match ds with
  | [.int k] => match intsOf xs with
    | some ns => match ns.findIdx? (· == k) with
      | some j => some (xs.eraseIdx j, .non)
      | none => none
    | none => none
  | _ => none
theorem em_remove : MtR X "list.remove" (rMop (tb X c) remM) := MtR.weak mt_remove fun x vs H Q h => by
  obtain ⟨G, a, us, xs, ds, ys, d, rfl, s, h1, h2, h3, h4, h5⟩ := h
  unfold remM at h4
  split at h4
  · rename_i k
    cases k1 : intsOf xs with
    | none => rw [k1] at h4; cases h4
    | some ns =>
      simp only [k1] at h4
      cases k2 : ns.findIdx? (· == k) with
      | none => rw [k2] at h4; cases h4
      | some j =>
        simp only [k2] at h4
        cases h4
        obtain ⟨v, rfl, r⟩ := reps1 h3
        simp only [Rep] at r
        subst r
        have e := h2.ints k1
        obtain ⟨hj, hp, hno⟩ := List.findIdx?_eq_some_iff_getElem.mp k2
        refine ⟨a, ns, k, j, rfl, rfl, by rw [← e]; exact h1, ?_, fun m hm q => ?_, ?_⟩
        · have : ns[j] = k := by simpa using hp
          rw [List.getElem?_eq_getElem hj, this]
        · have h7 := hno m hm
          have hml : m < ns.length := by omega
          rw [List.getElem?_eq_getElem hml] at q
          have : ns[m] = k := Option.some.inj q
          simp [this] at h7
        · have h8 := h2.erase j
          have e2 : (ns.eraseIdx j).map V.int = us.eraseIdx j := by rw [e, erase_map]
          rw [e2]
          exact h5 _ _ rep_non h8
  · cases h4
end
end Ev
namespace Ev
open PySem PySem.Spec L2

/-! ### x, y = a, b -/
section
variable {T : Tb} {B G G' H H' : Hp} {ios : Fx} {env env' : List Ent} {σ : L2.St}
theorem Sep.putSh (S : Sep T B G H ios env σ) {i : Nat} {d : D} {v : V} (r : Rep T G d v) (q : Ev.put env i (.sh d) = some env') : Sep T B G H ios env' (σ.set i (some v)) := by
  unfold Ev.put at q
  dsimp only at q
  split at q
  · rename_i hf
    cases q
    exact S.put hf ⟨v, rfl, r⟩ (by intro h; cases h)
  · cases q
theorem Sep.putFr (S : Sep T B G H ios env σ) {i : Nat} {d : D} {a : Addr} (c : Cell T B G H a d) (n : ∀ j, ¬ OwnAt env σ j a) (q : Ev.put env i (.fr d) = some env') : Sep T B G H ios env' (σ.set i (some (.ref a))) ∧ ∀ j b, OwnAt env' (σ.set i (some (.ref a))) j b → b = a ∨ OwnAt env σ j b := by
  unfold Ev.put at q
  dsimp only at q
  split at q
  · rename_i hf
    cases q
    refine ⟨S.put hf ⟨a, rfl, c⟩ fun _ b hb j => by cases hb; exact n j, fun j b o => ?_⟩
    by_cases w : j = i
    · subst w
      have := o.2
      rw [List.getElem?_set_self (by rw [← S.len]; exact free_lt hf)] at this
      cases this
      exact .inl rfl
    · exact .inr (o.put w)
  · cases q
theorem putSh_own {i j : Nat} {d : D} {v : V} {b : Addr} (hl : env.length = σ.length) (q : Ev.put env i (.sh d) = some env') (o : OwnAt env' (σ.set i (some v)) j b) : OwnAt env σ j b := by
  unfold Ev.put at q
  dsimp only at q
  split at q
  · rename_i hf
    cases q
    by_cases w : j = i
    · subst w
      obtain ⟨⟨e, h1, h2⟩, _⟩ := o
      rw [List.getElem?_set_self (free_lt hf)] at h1; cases h1; cases h2
    · exact o.put w
  · cases q
end
section
variable {X : Cx} {c : Tc} {E : XK} {pos : Pos} {a b : Expr} {p q : Bool} {fa fb : F}
theorem par_fin {T : Tb} {B G H : Hp} {ios : Fx} {env : List Ent} {σ : L2.St} {i j : Nat} {ra rb : Val} {v w : V} {Dn : Ends} (S : Sep T B G H ios env σ) (Va : ValOk T B G H env σ v ra) (Vb : ValOk T B G H env σ w rb)
    (hab : ∀ x y d e, ra = .fr d → rb = .fr e → v = .ref x → w = .ref y → x ≠ y) (h : PostS T E B G ios Dn (par2 i j env ra rb)) : Dn.nx ((σ.set i (some v)).set j (some w)) H := by
  cases ra with
  | vr k => exact h.elim
  | sh d =>
    cases rb with
    | vr k => exact h.elim
    | sh d2 =>
      dsimp only [par2] at h
      cases k : put env i (.sh d) with
      | none => rw [k] at h; exact h.elim
      | some e3 =>
        rw [k] at h
        simp only [Option.bind] at h
        cases k2 : put e3 j (.sh d2) with
        | none => rw [k2] at h; exact h.elim
        | some e4 =>
          rw [k2] at h
          exact h G H _ ((S.putSh Va k).putSh Vb k2) (Same.refl G)
    | fr d2 =>
      dsimp only [par2] at h
      cases k : put env i (.sh d) with
      | none => rw [k] at h; exact h.elim
      | some e3 =>
        rw [k] at h
        simp only [Option.bind] at h
        cases k2 : put e3 j (.fr d2) with
        | none => rw [k2] at h; exact h.elim
        | some e4 =>
          rw [k2] at h
          obtain ⟨y, h1, h2, h3⟩ := Vb
          subst h1
          exact h G H _ ((S.putSh Va k).putFr h2 (fun l o => h3 l (putSh_own S.len k o)) k2).1 (Same.refl G)
  | fr d =>
    obtain ⟨x, g1, g2, g3⟩ := Va
    subst g1
    cases rb with
    | vr k => exact h.elim
    | sh d2 =>
      dsimp only [par2] at h
      cases k : put env i (.fr d) with
      | none => rw [k] at h; exact h.elim
      | some e3 =>
        rw [k] at h
        simp only [Option.bind] at h
        cases k2 : put e3 j (.sh d2) with
        | none => rw [k2] at h; exact h.elim
        | some e4 =>
          rw [k2] at h
          exact h G H _ ((S.putFr g2 g3 k).1.putSh Vb k2) (Same.refl G)
    | fr d2 =>
      dsimp only [par2] at h
      cases k : put env i (.fr d) with
      | none => rw [k] at h; exact h.elim
      | some e3 =>
        rw [k] at h
        simp only [Option.bind] at h
        cases k2 : put e3 j (.fr d2) with
        | none => rw [k2] at h; exact h.elim
        | some e4 =>
          rw [k2] at h
          obtain ⟨y, h1, h2, h3⟩ := Vb
          subst h1
          obtain ⟨S1, o1⟩ := S.putFr g2 g3 k
          refine h G H _ (S1.putFr h2 (fun l o => ?_) k2).1 (Same.refl G)
          rcases o1 l y o with e | o
          · exact hab x y d d2 rfl rfl rfl rfl e.symm
          · exact h3 l o
theorem ValOk.grow {T : Tb} {B G G' H H' : Hp} {env : List Ent} {σ : L2.St} {v : V} {r : Val} (h : ValOk T B G H env σ v r) (g : Grow G H G' H') : ValOk T B G' H' env σ v r := by
  cases r with
  | sh d => exact Rep.mono g.g h
  | vr i => exact h
  | fr d =>
    obtain ⟨a, h1, h2, h3⟩ := h
    exact ⟨a, h1, h2.grow g, h3⟩
theorem par_core {i j : Nat} {Dn : Ends} {σ : L2.St} {H : Hp} {K : V → V → Hp → Prop} {tb' : TE} (hb : ∀ σ H Q, rd (tb X c) E q fb σ H Q → tb' σ H Q) (hq : rdS (tb X c) E (parF i j fa fb) Dn σ H)
    (hK : ∀ v w H2, Dn.nx ((σ.set i (some v)).set j (some w)) H2 → (∀ p o, H2 p = none → Dn.nx ((σ.set i (some v)).set j (some w)) (upd H2 p o)) → K v w H2) : rd (tb X c) E p fa σ H fun v H1 => tb' σ H1 fun w H2 => K v w H2 := by
  obtain ⟨B, G, ios, env, S, hq⟩ := hq
  refine ⟨B, G, ios, env, S, PostS.ofE hq fun ra e1 G1 H1 v S1 sg1 V1 hq1 => hb _ _ _ ?_⟩
  have fin : ∀ (G2 H2 : Hp) (w : V) (e2 : List Ent) (rb : Val), Sep (tb X c) B G2 H2 ios e2 σ → ValOk (tb X c) B G2 H2 e2 σ v ra → ValOk (tb X c) B G2 H2 e2 σ w rb → (∀ x y d e, ra = .fr d → rb = .fr e → v = .ref x → w = .ref y → x ≠ y) →
      PostS (tb X c) E B G2 ios Dn (par2 i j e2 ra rb) → K v w H2 := fun G2 H2 w e2 rb S2 Va Vb hab h2 =>
    hK v w H2 (par_fin S2 Va Vb hab h2) fun p o hp => by
      have g : Grow G2 H2 G2 (upd H2 p o) := Grow.mine S2.gh hp
      exact par_fin (S2.grow g) (Va.grow g) (Vb.grow g) hab h2
  cases ra with
  | vr k =>
    cases fb1 : fb e1 with
    | none => rw [fb1] at hq1; exact hq1.elim
    | some u =>
      rw [fb1] at hq1
      cases u with
      | ok rb e2 => exact hq1.elim
      | ex cc => exact ⟨B, G1, ios, e1, S1, by rw [fb1]; exact fun H' o sb _ => hq1 H' o sb⟩
  | sh d =>
    refine ⟨B, G1, ios, e1, S1, PostS.ofE hq1 fun rb e2 G2 H2 w S2 sg2 V2 hq2 => ?_⟩
    exact fin G2 H2 w e2 rb S2 (Rep.mono sg2 V1) V2 (by intro x y d e h; cases h) hq2
  | fr d =>
    obtain ⟨l, rfl, hcell, hno⟩ := V1
    cases d with
    | lst ds =>
      obtain ⟨vs, k1, k2', k3, k4⟩ := hcell
      have Sh := S1.hold k1 k3 hno
      refine ⟨upd B l (.lst vs), G1, _, e1, Sh, ?_⟩
      have sB : Same B (upd B l (.lst vs)) := same_upd k4
      cases fb1 : fb e1 with
      | none => rw [fb1] at hq1; exact hq1.elim
      | some u =>
        rw [fb1] at hq1
        cases u with
        | ex cc => exact fun H' o sb _ => hq1 H' o (sB.trans sb)
        | ok rb e2 =>
          intro G2 H2 w S2 sg2 _ V2
          have hl2 : H2 l = some (.lst vs) := S2.bh l _ upd_same
          have hg2 : G2 l = none := (S2.hd l (.inl rfl)).1
          have no2 : ∀ j, ¬ OwnAt e2 σ j l := fun j o => by
            have := (S2.own o).2.1
            rw [upd_same] at this; cases this
          have S3 : Sep (tb X c) B G2 H2 ios e2 σ := S2.unhold sB fun b hb => ⟨.inr hb, (S1.hd b hb).2⟩
          have Vb : ValOk (tb X c) B G2 H2 e2 σ w rb := by
            cases rb with
            | sh d => exact V2
            | vr k => exact V2
            | fr d =>
              obtain ⟨b, q1, q2, q3⟩ := V2
              refine ⟨b, q1, ?_, q3⟩
              cases d with
              | lst es => obtain ⟨ws, m1, m2, m3, m4⟩ := q2; exact ⟨ws, m1, m2, m3, none_of_same sB m4⟩
              | _ => exact q2.elim
          refine fin G2 H2 w e2 rb S3 ⟨l, rfl, ⟨vs, hl2, Reps.mono sg2 k2', hg2, k4⟩, no2⟩ Vb ?_ (PostS.mono hq1 sg2)
          rintro x y d e hd he hv hw' rfl
          cases hv
          subst he
          obtain ⟨b, q1, q2, q3⟩ := V2
          rw [hw'] at q1; cases q1
          cases e with
          | lst es =>
            obtain ⟨ws, m1, m2, m3, m4⟩ := q2
            rw [upd_same] at m4; cases m4
          | _ => exact q2.elim
    | _ => exact hcell.elim
theorem ss_par {i j : Nat} {x y : Str} {px py pt : Pos} {kt k2 pt2} (hc : X.calm = true) (nd : X.N.Nodup) (ha : SE X c E p a fa) (hb : SE X c E q b fb) (hi : X.N[i]? = some x := by rfl) (hj : X.N[j]? = some y := by rfl) (hij : i ≠ j := by decide)
    (hx : X.env.scope.names.lookup x = some .local := by rfl) (hy : X.env.scope.names.lookup y = some .local := by rfl)
    (hw : swappedStores [.Tuple [.Name x px, .Name y py] kt pt] (.Tuple [a, b] k2 pt2) X.env = pure (some [x, y]) := by rfl)
    (hs : swapsWithSole [.Tuple [.Name x px, .Name y py] kt pt] (.Tuple [a, b] k2 pt2) pos.line X.env = pure false := by rfl)
    (h1 : starEach [a, b] X.env = (false, eval a X.env) :: starEach [b] X.env := by rfl) (h2 : starEach [b] X.env = (false, eval b X.env) :: starEach [] X.env := by rfl) :
    SS X c E (.Assign [.Tuple [.Name x px, .Name y py] kt pt] (.Tuple [a, b] k2 pt2) pos) (parF i j fa fb) :=
  ⟨PS.weak (ps_par hc nd hi hj hij hx hy (pa_cons ha.run (pa_cons hb.run pa_nil h2) h1) hw hs) fun Dn σ H hq => par_core (tb' := rd (tb X c) E q fb) (fun _ _ _ h => h) hq fun v w H2 h3 _ => ⟨v, w, rfl, h3⟩⟩
/-- the same where a name is a cell -/
theorem ss_parT {i j : Nat} {x y : Str} {px py pt : Pos} {kt k2 pt2} (hc : X.calm = true) (nd : X.N.Nodup) (ha : SE X c E p a fa) (hb : SE X c E q b fb) (hi : X.N[i]? = some x := by rfl) (hj : X.N[j]? = some y := by rfl)
    (hx : Loc X.env.scope x := by first | exact Or.inl rfl | exact Or.inr rfl) (hy : Loc X.env.scope y := by first | exact Or.inl rfl | exact Or.inr rfl) (hfx : X.fn x = true ∨ X.env.scope.names.lookup x = some .local := by first | exact .inl rfl | exact .inr rfl | assumption) (hfy : X.fn y = true ∨ X.env.scope.names.lookup y = some .local := by first | exact .inl rfl | exact .inr rfl | assumption)
    (hw : swappedStores [.Tuple [.Name x px, .Name y py] kt pt] (.Tuple [a, b] k2 pt2) X.env = pure none := by rfl)
    (hs : swapsWithSole [.Tuple [.Name x px, .Name y py] kt pt] (.Tuple [a, b] k2 pt2) pos.line X.env = pure false := by rfl)
    (hA : (assignEach [.Tuple [.Name x px, .Name y py] kt pt] X.env).map (·.2) = [assign (.Tuple [.Name x px, .Name y py] kt pt) X.env] := by rfl)
    (hn : (assignEach [.Name x px, .Name y py] X.env).length = [Expr.Name x px, Expr.Name y py].length := by rfl) (hst : (assignEach [.Name x px, .Name y py] X.env).findIdx? (·.1) = none := by rfl)
    (hs1 : (assignEach [.Name x px, .Name y py] X.env).map (·.2) = assign (.Name x px) X.env :: (assignEach [.Name y py] X.env).map (·.2) := by rfl) (hs2 : (assignEach [.Name y py] X.env).map (·.2) = assign (.Name y py) X.env :: (assignEach [] X.env).map (·.2) := by rfl)
    (h1 : starEach [a, b] X.env = (false, eval a X.env) :: starEach [b] X.env := by rfl) (h2 : starEach [b] X.env = (false, eval b X.env) :: starEach [] X.env := by rfl) :
    SS X c E (.Assign [.Tuple [.Name x px, .Name y py] kt pt] (.Tuple [a, b] k2 pt2) pos) (parF i j fa fb) :=
  ⟨PS.weak (ps_asg (pe_tup (pa_cons ha.run (pa_cons hb.run pa_nil h2) h1)) (pg_tup hc (pgs_cons (pg_name nd hi hx hfx) (pgs_cons (pg_name nd hj hy hfy) pgs_nil hs2) hs1) hn hst) hs hw hA) fun Dn σ H hq => par_core (tb' := rd (tb X c) E q fb) (fun _ _ _ h => h) hq fun v w H2 h3 h4 =>
    ⟨by show 2 ≤ sizeLine; decide, fun r hr => ⟨r, [v, w], rfl, SqT.of upd_same, rfl, v, [w], rfl, w, [], rfl, rfl, h4 r _ hr⟩⟩⟩
end

/-! ### x[k] = e, x a list of one's own -/
def setIxF (i : Nat) (fb fe : F) : FS := fun env => bES (fe env) fun r e1 => match store e1 r with
  | none => none
  | some (d, e2) => if isLst e2 i = true then bES (fb e2) fun rb e3 => match peek e3 rb, lstAt e3 i with
    | some (.int k), some xs => (ixN xs.length k).map fun j => .nx (lstSet e3 i (xs.set j d))
    | _, _ => none
  else none
theorem Reps.set {T : Tb} {G : Hp} : ∀ {ds : List D} {vs : List V} {d : D} {v : V} (n : Nat), Reps T G ds vs → Rep T G d v → Reps T G (ds.set n d) (vs.set n v)
  | [], vs, d, v, n, r, _ => by
    have : vs = [] := by simpa [Reps] using r
    subst this; exact r
  | d0 :: ds, vs, d, v, 0, r, h => by
    simp only [Reps] at r
    obtain ⟨w, vr, rfl, r1, r2⟩ := r
    exact ⟨v, vr, rfl, h, r2⟩
  | d0 :: ds, vs, d, v, n + 1, r, h => by
    simp only [Reps] at r
    obtain ⟨w, vr, rfl, r1, r2⟩ := r
    exact ⟨w, vr.set n v, rfl, r1, Reps.set n r2 h⟩
theorem store_norm {env : List Ent} {r : Val} : store env r.norm = store env r := by cases r <;> rfl
section
variable {X : Cx} {c : Tc} {E : XK} {pos px ps : Pos} {e b : Expr} {p q : Bool} {fe fb : F} {x : Str} {i : Nat}
theorem ss_setIx (he : SE X c E p e fe) (hb : SE X c E q b fb) (hv : PE X (.Name x px) (tVar i))
    (hA : ∀ v, assign (.Subscript (.Name x px) b ps) X.env v = (do
      let ov ← holding [v] (eval (.Name x px) X.env)
      let iv ← holding [v, ov] (eval b X.env)
      standAt ps
      holding [v, ov, iv] (setItem ov iv v)
      release [v, ov, iv] []) := by intro _; rfl)
    (hs : swapsWithSole [.Subscript (.Name x px) b ps] e pos.line X.env = pure false := by rfl) (hw : swappedStores [.Subscript (.Name x px) b ps] e X.env = pure none := by rfl)
    (h1 : (assignEach [.Subscript (.Name x px) b ps] X.env).map (·.2) = [assign (.Subscript (.Name x px) b ps) X.env] := by rfl) : SS X c E (.Assign [.Subscript (.Name x px) b ps] e pos) (setIxF i fb fe) := by
  refine ⟨PS.weak (ps_asg he.run (pg_sub hv hb.run set_list hA) hs hw h1) fun Dn σ H hq => ?_⟩
  obtain ⟨B, G, ios, env, S, hq⟩ := hq
  refine ⟨B, G, ios, env, S, PostS.ofO hq fun r e1 G1 H1 v S1 sg1 V1 hq1 => ?_⟩
  cases k : store e1 r with
  | none => simp only [k] at hq1; exact hq1.elim
  | some u =>
    obtain ⟨d, e2⟩ := u
    simp only [k] at hq1
    obtain ⟨G2, S2, sg2, r2⟩ := S1.store V1 (by rw [store_norm]; exact k)
    by_cases hl : isLst e2 i = true
    · rw [if_pos hl] at hq1
      unfold isLst at hl
      cases k0 : lstAt e2 i with
      | none => rw [k0] at hl; cases hl
      | some xs0 =>
        obtain ⟨a, vs0, ha, _⟩ := S2.lstAt k0
        refine ⟨.ref a, ha, B, G2, ios, e2, S2, PostS.ofO (hq1.mono sg2) fun rb e3 G3 H3 w S3 sg3 V3 hq3 => ?_⟩
        cases k2 : peek e3 rb with
        | none => simp only [k2] at hq3; exact hq3.elim
        | some db =>
          cases k3 : lstAt e3 i with
          | none => simp only [k2, k3] at hq3; exact hq3.elim
          | some xs =>
            simp only [k2, k3] at hq3
            cases db with
            | int kk =>
              simp only at hq3
              cases k4 : ixN xs.length kk with
              | none => rw [k4] at hq3; exact hq3.elim
              | some j =>
                rw [k4] at hq3
                obtain ⟨a', us, g1, g2, g3, g4, g5, g6⟩ := S3.lstAt k3
                rw [ha] at g1; cases g1
                have hw := (V3.repT S3 (by rw [peek_norm]; exact k2)).int
                refine ⟨a, us, kk, j, rfl, hw, g2, by rw [Reps.length g3]; exact k4, ?_⟩
                exact hq3 G3 _ σ (S3.write k3 ha (g3.set j (Rep.mono sg3 r2))) (Same.refl G3)
            | _ => exact hq3.elim
    · rw [if_neg hl] at hq1; exact hq1.elim
end
end Ev
namespace Ev
open PySem PySem.Spec L2

/-! ### x += k -/
def augF (i : Nat) (fe : F) : FS := fun env => match env[i]? with
  | some (.sh (.int a)) => bES (fe env) fun r e1 => match peek e1 r with
    | some (.int b) => (put e1 i (.sh (.int (a + b)))).map .nx
    | _ => none
  | _ => none
section
variable {X : Cx} {c : Tc} {E : XK} {pos px : Pos} {e : Expr} {p : Bool} {fe : F} {x : Str} {i : Nat}
theorem ss_aug (nd : X.N.Nodup) (he : SE X c E p e fe) (hi : X.N[i]? = some x := by rfl) (hx : Loc X.env.scope x := by first | exact Or.inl rfl | exact Or.inr rfl) (hf : X.fn x = true ∨ X.env.scope.names.lookup x = some .local := by first | exact .inl rfl | exact .inr rfl | assumption) :
    SS X c E (.AugAssign (.Name x px) .Add e pos) (augF i fe) := ⟨PS.weak (ps_aug nd hi hx he.run ip_add hf) fun Dn σ H q => by
  obtain ⟨B, G, ios, env, S, q⟩ := q
  unfold augF at q
  cases z : env[i]? with
  | none => rw [z] at q; exact q.elim
  | some en =>
    rw [z] at q
    have cc := S.ent i en z
    cases en with
    | sh d =>
      cases d with
      | int a =>
        obtain ⟨v, h1, h2⟩ := cc
        simp only [Rep] at h2
        subst h2
        refine ⟨_, h1, B, G, ios, env, S, PostS.ofO q fun r e1 G1 H1 w S1 sg1 V1 q1 => ?_⟩
        cases k : peek e1 r with
        | none => simp only [k] at q1; exact q1.elim
        | some db =>
          simp only [k] at q1
          cases db with
          | int b =>
            have hw := (V1.repT S1 (by rw [peek_norm]; exact k)).int
            simp only at q1
            cases k2 : put e1 i (.sh (.int (a + b))) with
            | none => rw [k2] at q1; exact q1.elim
            | some e2 =>
              rw [k2] at q1
              exact ⟨a, b, rfl, hw, q1 G1 H1 _ (S1.putSh (rep_int (T := tb X c) (G := G1)) k2) (Same.refl G1)⟩
          | _ => exact q1.elim
      | _ => exact q.elim
    | _ => exact q.elim⟩
end

/-! ### defs that write the list of their first argument -/
structure GrowI (a : Addr) (G H G' H' : Hp) : Prop where
  g : Same G G'
  gh : Same G' H'
  h : ∀ b o, b ≠ a → H b = some o → H' b = some o
  nw : ∀ b, H b ≠ none → G b = none → G' b = none
section
variable {T : Tb} {B G G' H H' : Hp} {ios : Fx} {env env' : List Ent} {σ : L2.St}
theorem lstSet_get {i j : Nat} {ys : List D} (n : j ≠ i) : (lstSet env i ys)[j]? = env[j]? := by
  unfold lstSet
  split
  · rw [List.getElem?_set_ne (Ne.symm n)]
  · rw [List.getElem?_set_ne (Ne.symm n)]
  · rfl
theorem lstSet_len {i : Nat} {ys : List D} : (lstSet env i ys).length = env.length := by
  unfold lstSet
  split <;> simp
theorem lstSet_own {i j : Nat} {xs ys : List D} {b : Addr} (h : lstAt env i = some xs) (o : OwnAt (lstSet env i ys) σ j b) : OwnAt env σ j b := by
  obtain ⟨⟨e, q1, q2⟩, q3⟩ := o
  by_cases w : j = i
  · subst w
    unfold lstAt at h
    cases z : env[j]? with
    | none => rw [z] at h; cases h
    | some e0 =>
      rw [z] at h
      cases e0 with
      | own d => exact ⟨⟨_, z, rfl⟩, q3⟩
      | io d => exact ⟨⟨_, z, rfl⟩, q3⟩
      | _ => cases h
  · rw [lstSet_get w] at q1
    exact ⟨⟨e, q1, q2⟩, q3⟩
theorem Sep.writeG (S : Sep T B G H ios env σ) {i : Nat} {xs ys : List D} (h : Ev.lstAt env i = some xs) {a : Addr} (ha : σ[i]? = some (some (.ref a))) (g : GrowI a G H G' H') {ws : List V} (hw : H' a = some (.lst ws)) (r : Reps T G' ys ws) : Sep T B G' H' ios (lstSet env i ys) σ := by
  obtain ⟨a', vs, h1, h2, h3, h4, h5, h6⟩ := S.lstAt h
  rw [ha] at h1; cases h1
  have hga : G' a = none := g.nw a (by rw [h2]; simp) h4
  have hne : ∀ j b, j ≠ i → OwnAt env σ j b → b ≠ a := fun j b n o e => by
    subst e
    exact S.apart j i _ n o h6
  refine ⟨by rw [lstSet_len]; exact S.len, g.gh, fun b o e => ?_, fun j e q => ?_, fun j l b n o1 o2 => S.apart j l b n (lstSet_own h o1) (lstSet_own h o2), fun b hb => ?_⟩
  · refine g.h b o (fun z => ?_) (S.bh b o e)
    subst z
    rw [h5] at e; cases e
  · by_cases w : j = i
    · subst w
      unfold Ev.lstAt at h
      unfold lstSet at q
      cases z : env[j]? with
      | none => rw [z] at h; cases h
      | some e0 =>
        have hj := (List.getElem?_eq_some_iff.mp z).1
        have c := S.ent j e0 z
        rw [z] at h q
        cases e0 with
        | own d =>
          dsimp only at q
          rw [List.getElem?_set_self hj] at q; cases q
          exact ⟨a, ha, ws, hw, r, hga, h5⟩
        | io d =>
          dsimp only at q
          rw [List.getElem?_set_self hj] at q; cases q
          obtain ⟨b, c1, _, c3⟩ := c
          rw [ha] at c1; cases c1
          exact ⟨a, ha, ⟨ws, hw, r, hga, h5⟩, c3⟩
        | _ => cases h
    · rw [lstSet_get w] at q
      have c := S.ent j e q
      have ne : ∀ b, e.mine = true → σ[j]? = some (some (.ref b)) → b ≠ a := fun b m z => hne j b w ⟨⟨e, q, m⟩, z⟩
      have cell : ∀ b d, b ≠ a → Cell T B G H b d → Cell T B G' H' b d := fun b d n c => by
        cases d with
        | lst ds =>
          obtain ⟨vs', k1, k2, k3, k4⟩ := c
          exact ⟨vs', g.h b _ n k1, Reps.mono g.g k2, g.nw b (by rw [k1]; simp) k3, k4⟩
        | _ => exact c.elim
      cases e with
      | no => trivial
      | sh d =>
        obtain ⟨v, c1, c2⟩ := c
        exact ⟨v, c1, Rep.mono g.g c2⟩
      | own d =>
        obtain ⟨b, c1, c2⟩ := c
        exact ⟨b, c1, cell b d (ne b rfl c1) c2⟩
      | io d =>
        obtain ⟨b, c1, c2, c3⟩ := c
        exact ⟨b, c1, cell b d (ne b rfl c1) c2, c3⟩
      | slf cl ns ds =>
        obtain ⟨b, dx, fs, c1, k1, k2, k3, k4, k5, k6⟩ := c
        exact ⟨b, dx, fs, c1, g.h b _ (ne b rfl c1) k1, k2, Reps.mono g.g k3, g.nw b (by rw [k1]; simp) k4, k5, k6⟩
  · obtain ⟨q1, o, q2⟩ := S.hd b hb
    exact ⟨g.nw b (by rw [S.bh b o q2]; simp) q1, o, q2⟩
theorem ResOk.val' {v : V} {r : Val} (S : Sep T B G H ios env σ) (o2 : ∀ j b, OwnAt env' σ j b → OwnAt env σ j b) (h : ResOk T G' H H' v r) : ValOk T B G' H' env' σ v r := by
  cases r with
  | sh d => exact h
  | vr i => exact h.elim
  | fr d =>
    cases d with
    | lst ds =>
      obtain ⟨a, vs, h1, h2, h3, h4, h5⟩ := h
      refine ⟨a, h1, ⟨vs, h4, h5, h3, none_of_same S.bh h2⟩, fun i o => ?_⟩
      obtain ⟨_, _, o, q⟩ := S.own (o2 i a o)
      rw [h2] at q; cases q
    | _ => exact h.elim
end
/-- the list of the first argument before and afterwards, what comes out -/
abbrev Fi := List D → List D → Option (List D × Val)
def spI (T : Tb) (f : Fi) : Sp := fun vs H Q _ => ∃ G ds hs a ws us, vs = .ref a :: us ∧ H a = some (.lst ws) ∧ G a = none ∧ Same G H ∧ Reps T G hs ws ∧ Reps T G ds us ∧ match f hs ds with
  | some (hs', r) => ∀ G' H' v ws', GrowI a G H G' H' → H' a = some (.lst ws') → Reps T G' hs' ws' → ResOk T G' H H' v r → Q v H'
  | none => False
def iniI (n : Nat) (hs ds : List D) : List Ent := .io (.lst hs) :: (ds.map .sh ++ List.replicate (n - (ds.length + 1)) .no)
def finI (e : List Ent) (r : Val) : Option (List D × Val) := match (e[0]? : Option Ent) with
  | some (.io (.lst hs)) => (fin e r).map fun r => (hs, r)
  | _ => none
def runI (np n : Nat) (g : FS) : Fi := fun hs ds => if ds.length + 1 = np then match g (iniI n hs ds) with
    | some (.nx e) => finI e (.sh .non)
    | some (.rt r e) => finI e r
    | _ => none
  else none
theorem spI_imp {T : Tb} {f f' : Fi} (h : ∀ hs ds r, f' hs ds = some r → f hs ds = some r) {vs : List V} {H : Hp} {Q : VK} {E : XK} (s : spI T f' vs H Q E) : spI T f vs H Q E := by
  obtain ⟨G, ds, hs, a, ws, us, h1, h2, h3, h4, h5, h6, k⟩ := s
  refine ⟨G, ds, hs, a, ws, us, h1, h2, h3, h4, h5, h6, ?_⟩
  cases q : f' hs ds with
  | none => rw [q] at k; exact k.elim
  | some r => rw [q] at k; rw [h hs ds r q]; exact k
section
variable {T : Tb} {G H : Hp} {N : List Str} {ds hs : List D} {us ws : List V} {a : Addr}
def fxI (a : Addr) (G H : Hp) : Fx := ⟨[(0, a)], fun b => b ≠ a ∧ H b ≠ none ∧ G b = none⟩
theorem iniI_get {n j : Nat} {e : Ent} (h : (iniI n hs ds)[j]? = some e) : (j = 0 ∧ e = .io (.lst hs)) ∨ (∃ i d, j = i + 1 ∧ ds[i]? = some d ∧ e = .sh d) ∨ (ds.length < j ∧ e = .no) := by
  unfold iniI at h
  cases j with
  | zero => left; simp at h; exact ⟨rfl, h.symm⟩
  | succ i =>
    right
    rw [List.getElem?_cons_succ] at h
    by_cases w : i < ds.length
    · rw [List.getElem?_append_left (by simpa using w)] at h
      obtain ⟨d, h1, h2⟩ := map_get h
      exact .inl ⟨i, d, rfl, h1, h2⟩
    · rw [List.getElem?_append_right (by simp; omega)] at h
      have := List.mem_of_getElem? h
      rw [List.mem_replicate] at this
      exact .inr ⟨by omega, this.2⟩
theorem sep_iniI (ha : H a = some (.lst ws)) (hg : G a = none) (sg : Same G H) (rh : Reps T G hs ws) (r : Reps T G ds us) (hl : ds.length + 1 ≤ N.length) : Sep T (cut [a] H) G H (fxI a G H) (iniI N.length hs ds) (L2.start N (.ref a :: us)) := by
  have hv := Reps.length r
  have st : ∀ j, j ≤ us.length → (L2.start N (.ref a :: us))[j]? = (V.ref a :: us)[j]?.map some := fun j hj => by
    unfold L2.start
    rw [List.getElem?_append_left (by simp; omega), List.getElem?_map]
  have cutn : ∀ b o, cut [a] H b = some o → H b = some o ∧ b ≠ a := fun b o e => by
    unfold cut at e
    by_cases q : b ∈ [a]
    · rw [if_pos q] at e; cases e
    · rw [if_neg q] at e; exact ⟨e, by simpa using q⟩
  have only0 : ∀ j b, OwnAt (iniI N.length hs ds) (L2.start N (.ref a :: us)) j b → j = 0 := fun j b o => by
    obtain ⟨⟨e, h1, h2⟩, _⟩ := o
    rcases iniI_get h1 with ⟨h, _⟩ | ⟨i, d, _, _, h⟩ | ⟨_, h⟩
    · exact h
    · subst h; cases h2
    · subst h; cases h2
  refine ⟨?_, sg, fun b o e => (cutn b o e).1, fun j e h => ?_, fun i j b n o1 o2 => n ((only0 i b o1).trans (only0 j b o2).symm), fun b hb => ⟨hb.2.2, ?_⟩⟩
  · unfold iniI L2.start
    simp only [List.length_append, List.length_map, List.length_replicate, List.length_cons]
    omega
  · rcases iniI_get h with ⟨rfl, rfl⟩ | ⟨i, d, rfl, h1, rfl⟩ | ⟨_, rfl⟩
    · exact ⟨a, by rw [st 0 (Nat.zero_le _)]; rfl, ⟨ws, ha, rh, hg, by unfold cut; rw [if_pos (by simp)]⟩, by simp [fxI]⟩
    · obtain ⟨v, h2, h3⟩ := Reps.at' r h1
      have hi := (List.getElem?_eq_some_iff.mp h2).1
      exact ⟨v, by rw [st (i + 1) hi, List.getElem?_cons_succ, h2]; rfl, h3⟩
    · trivial
  · obtain ⟨h1, h2, _⟩ := hb
    cases q : H b with
    | none => exact absurd q h2
    | some o => exact ⟨o, by unfold cut; rw [if_neg (by simpa using h1), q]⟩
end
section
variable {P : Program} {w : World} {K : PySem.W.Frag} {mg : Str → Option Value} {base : Heap} {c : Tc}
theorem bodyI_core {X : Cx} {E : XK} {N : List Str} {np : Nat} {body : List Stmt} {g : FS} {vs : List V} {H : Hp} {Q : VK} (hp : np ≤ N.length) (hb : SSs X c E body g) (hsp : spI (tb X c) (runI np N.length g) vs H Q E) :
    ∃ t, PSs X body t ∧ t { nx := fun _ H' => Q .non H', rt := Q } (L2.start N vs) H := by
  refine ⟨_, hb.run, ?_⟩
  obtain ⟨G, ds, hs, a, ws, us, rfl, ha, hga, sg, rh, rp, k⟩ := hsp
  unfold runI at k
  by_cases hl : ds.length + 1 = np
  · rw [if_pos hl] at k
    have S := sep_iniI (N := N) ha hga sg rh rp (by omega)
    refine ⟨cut [a] H, G, _, _, S, ?_⟩
    have bcut : ∀ b o, b ≠ a → H b = some o → cut [a] H b = some o := fun b o n e => by unfold cut; rw [if_neg (by simpa using n)]; exact e
    have fin' : ∀ {G' H' : Hp} {σ' : L2.St} {e : List Ent} {hs' : List D}, Sep (tb X c) (cut [a] H) G' H' (fxI a G H) e σ' → Same G G' → e[0]? = some (.io (.lst hs')) → GrowI a G H G' H' ∧ (∃ ws', H' a = some (.lst ws') ∧ Reps (tb X c) G' hs' ws') ∧ OwnAt e σ' 0 a := fun {G' H' σ' e hs'} S' sg' h0 => by
      obtain ⟨a', h1, ⟨ws', k1, k2, k3, k4⟩, hm⟩ := S'.ent 0 _ h0
      have e1 : a' = a := by simpa [fxI] using hm
      subst e1
      refine ⟨⟨sg', S'.gh, fun b o n e => S'.bh b o (bcut b o n e), fun b h1 h2 => ?_⟩, ⟨ws', k1, k2⟩, ⟨_, h0, rfl⟩, h1⟩
      by_cases n : b = a'
      · subst n; exact k3
      · exact (S'.hd b ⟨n, h1, h2⟩).1
    cases q : g (iniI N.length hs ds) with
    | none => rw [q] at k; exact k.elim
    | some o =>
      rw [q] at k
      cases o with
      | bk e => exact k.elim
      | ct e => exact k.elim
      | ex c => exact k.elim
      | nx e =>
        intro G' H' σ' S' sg'
        unfold finI at k
        cases z : e[0]? with
        | none => simp only [z] at k
        | some e0 =>
          simp only [z] at k
          cases e0 with
          | io d =>
            cases d with
            | lst hs' =>
              obtain ⟨gr, ⟨ws', k1, k2⟩, _⟩ := fin' S' sg' z
              exact k G' H' .non ws' gr k1 k2 (rep_non (T := tb X c) (G := G'))
            | _ => exact k.elim
          | _ => exact k.elim
      | rt r e =>
        intro G' H' σ' v S' sg' V
        unfold finI at k
        cases z : e[0]? with
        | none => simp only [z] at k
        | some e0 =>
          simp only [z] at k
          cases e0 with
          | io d =>
            cases d with
            | lst hs' =>
              obtain ⟨gr, ⟨ws', k1, k2⟩, ho⟩ := fin' S' sg' z
              have cell : ∀ {b : Addr} {d : D}, Cell (tb X c) (cut [a] H) G' H' b d → v = .ref b → b ≠ a → ResOk (tb X c) G' H H' v (.fr d) := fun {b d} h e n => by
                cases d with
                | lst ds =>
                  obtain ⟨ws2, h1, h2, h3, h4⟩ := h
                  refine ⟨b, ws2, e, ?_, h3, h1, h2⟩
                  cases q : H b with
                  | none => rfl
                  | some o => rw [bcut b o n q] at h4; cases h4
                | _ => exact h.elim
              cases r with
              | sh d => exact k G' H' v ws' gr k1 k2 V
              | fr d =>
                obtain ⟨b, h1, h2, h3⟩ := V
                exact k G' H' v ws' gr k1 k2 (cell h2 h1 fun e => h3 0 (by rw [e]; exact ho))
              | vr i =>
                obtain ⟨hσ, d, hd⟩ := V
                unfold fin at k
                rcases hd with hd | hd
                · simp only [hd] at k
                  obtain ⟨b, h1, h2⟩ := S'.ent i _ hd
                  rw [hσ] at h1; cases h1
                  refine k G' H' _ ws' gr k1 k2 (cell h2 rfl fun e => ?_)
                  subst e
                  refine S'.apart i 0 _ (fun e => ?_) ⟨⟨_, hd, rfl⟩, hσ⟩ ho
                  subst e
                  rw [z] at hd; cases hd
                · simp only [hd] at k; exact k.elim
            | _ => exact k.elim
          | _ => exact k.elim
  · rw [if_neg hl] at k; exact k.elim
/-- THE RULE for a def that writes its first argument's list -/
theorem fn_io {x qual : Str} {pa : Arguments} {bd : List Stmt} {sc : Scope} {dvs : List V} {kws : List (Str × V)} {f : Addr} {fd : FuncData} {N ps : List Str} {k : Nat} {g : FS} {f' : Fi} (F : FunD K x qual pa bd sc dvs kws f fd) (S : FnScope N ps sc) (hN : ps.length ≤ N.length)
    (hb : ∀ (cdv : Value) (A : Around) (outer : List Env) (s : Shared) (H : Hp) (E : XK), Cxt (cxOf (L2.CX P w) P w K mg base N qual sc f cdv A outer s H E) E k →
      SSs (cxOf (L2.CX P w) P w K mg base N qual sc f cdv A outer s H E) c E bd g)
    (hm : ∀ hs ds r, f' hs ds = some r → runI ps.length N.length g hs ds = some r) : FnG P w K mg base (L2.CX P w) (k + 1) f fd ps (spI ⟨K, c.ct, c.xc⟩ f') := by
  obtain ⟨oc, od, dV, kV, doc, pm, an, cdv, ct, osl, rfl, lk, hcd, _, _⟩ := F.ex
  refine fnG_of lk hcd S (fun vs H Q E h => ?_) fun A gd outer s H vs Q E hr h => ?_
  · obtain ⟨G, ds, hs, a, ws, us, rfl, _, _, _, _, rp, q⟩ := spI_imp hm h
    unfold runI at q
    by_cases hl : ds.length + 1 = ps.length
    · rw [List.length_cons, Reps.length rp, hl]
    · rw [if_neg hl] at q; exact q.elim
  · refine bodyI_core hN (hb cdv A outer s H E ⟨rfl, S.nd, passes_call (takes_of rfl rfl rfl rfl) (fun _ _ _ _ h => h), hr, gd⟩) ?_
    exact spI_imp hm h
end
/-- the call -/
def ioF (i : Nat) (f : Fi) (fs : FA) : F := fun env => if isLst env i = true then bA (fs env) fun rs e1 => match stores e1 rs with
    | none => none
    | some (ds, e2) => match lstAt e2 i with
      | none => none
      | some hs => (f hs ds).map fun (hs', r) => .ok r (lstSet e2 i hs')
  else none
section
variable {X : Cx} {c : Tc} {E : XK} {pos px pv : Pos} {e : Expr} {es : List Expr} {p : Bool} {fs : FA} {x y : Str} {i k : Nat} {f : Fi}
theorem se_callI (Fx : Fnd X.prog X.w X.K X.mg X.base k x (spI (tb X c) f)) (hr : Room k X.A) (gd : X.A.guards = some []) (hx : Passes (L2.CX X.prog X.w) X E) (hv : PE X (.Name y pv) (tVar i)) (ha : SA X c E p es fs) (hg : Gl X x := by rfl) (hdb : (x == ("__debug__" : Str)) = false := by decide)
    (he : starEach (.Name y pv :: es) X.env = (false, eval (.Name y pv) X.env) :: starEach es X.env := by rfl) (hpl : (backTo pos (starEach es X.env)).any (·.1) = false := by rfl) : SE X c E false (.Call (.Name x px) (.Name y pv :: es) [] pos) (ioF i f fs) := by
  obtain ⟨f', fd, ps, h1, h2, h3, h4⟩ := Fx.ex
  refine ⟨PE.weak (pe_callG h1 hr gd hg h2 h3 h4 hx (pa_cons hv ha.run he) hdb he hpl) fun σ H Q h => ?_⟩
  obtain ⟨B, G, ios, env, S, hq⟩ := h
  unfold ioF at hq
  by_cases hl : isLst env i = true
  · rw [if_pos hl] at hq
    unfold isLst at hl
    cases k0 : lstAt env i with
    | none => rw [k0] at hl; cases hl
    | some xs0 =>
      obtain ⟨a, vs0, g1, g2, _⟩ := S.lstAt k0
      refine ⟨.ref a, g1, B, G, ios, env, S, PostA.bind (p2 := false) (by rw [Bool.and_false]; exact hq) fun rs e1 G1 H1 vs kk S1 sg1 V1 hq1 _ => ?_⟩
      cases k2 : stores e1 rs with
      | none => simp only [k2] at hq1; exact hq1.elim
      | some u =>
        obtain ⟨ds, e2⟩ := u
        simp only [k2] at hq1
        obtain ⟨G2, S2, sg2, r2⟩ := S1.stores V1 k2
        cases k3 : lstAt e2 i with
        | none => simp only [k3] at hq1; exact hq1.elim
        | some hs =>
          simp only [k3] at hq1
          obtain ⟨a', us, m1, m2, m3, m4, m5, m6⟩ := S2.lstAt k3
          rw [g1] at m1; cases m1
          refine ⟨G2, ds, hs, a, us, vs, rfl, m2, m4, S2.gh, m3, r2, ?_⟩
          cases k4 : f hs ds with
          | none => rw [k4] at hq1; exact hq1.elim
          | some u =>
            obtain ⟨hs', r⟩ := u
            rw [k4] at hq1
            intro G' H' v ws' g hw rw' ro
            exact hq1 G' H' v (S2.writeG k3 g1 g hw rw') (sg2.trans g.g) (by intro h; cases h) (ro.val' S2 fun j b o => lstSet_own k3 o)
  · rw [if_neg hl] at hq; exact hq.elim
end
end Ev
/-! comprehensions with two clauses, the blocks of which change nothing that stood -/
namespace Ev
open PySem PySem.Spec L2
def But (a : Addr) (H H' : Hp) : Prop := ∀ b o, b ≠ a → H b = some o → H' b = some o
theorem But.trans {a : Addr} {H H' H2 : Hp} (x : But a H H') (y : But a H' H2) : But a H H2 := fun b o n e => y b o n (x b o n e)
theorem wipe_wipe {σ : L2.St} {vs ws : List Nat} (h : ∀ i ∈ ws, i ∈ vs) : L2.wipe (L2.wipe σ ws) vs = L2.wipe σ vs := by
  apply List.ext_getElem?
  intro i
  by_cases hi : i ∈ vs
  · by_cases hlt : i < σ.length
    · rw [wipe_at hi (by rw [wipe_length]; exact hlt), wipe_at hi hlt]
    · rw [List.getElem?_eq_none (by rw [wipe_length, wipe_length]; omega), List.getElem?_eq_none (by rw [wipe_length]; omega)]
  · rw [wipe_get hi, wipe_get hi, wipe_get fun z => hi (h i z)]
section
variable {X : Cx} {c : Tc} {E : XK} {pos : Pos} {tg iter elt : Expr} {ifs : List Expr} {scope : Scope} {own : List (Str × Nat)} {p q r : Bool} {it : FI} {g : FG} {tt : FT} {fe : F}
theorem lc_turns {σ : L2.St} {B G H Fr : Hp} {ios : Fx} {e einF : List Ent} {Dn : Addr} {acc0 accF ds : List D} {vs0 : List V} {J : It} {vs ns : List Nat} {Fin : Hp → Prop} (hsub : ∀ i ∈ ns, i ∈ vs)
    (S : Sep (tb X c) B G H ios e σ) (gD : G Dn = none) (bD : B Dn = none) (nD : ∀ j, ¬ OwnAt e σ j Dn) (hD : H Dn = some (.lst vs0)) (r0 : Reps (tb X c) G acc0 vs0) (IT : ItOk (tb X c) J Fr G ds) (frD : Fr Dn = none) (sF1 : Same Fr H) (hl : acc0.length + ds.length ≤ 2000000)
    (hcm : compL g tt fe vs ds (wipeE e vs) acc0 = some (accF, einF))
    (hfin : ∀ Gc Hc vs', Sep (tb X c) B Gc Hc ios einF (L2.wipe σ vs) → Same G Gc → But Dn H Hc → Hc Dn = some (.lst vs') → Reps (tb X c) Gc accF vs' → Gc Dn = none → (∀ j, ¬ OwnAt einF (L2.wipe σ vs) j Dn) → accF.length ≤ acc0.length + ds.length → Fin Hc) :
    ∃ W : Nat → Nat → Hp → Prop, (∃ m, W 0 m H) ∧ ∀ i m H, W i m H → (J.stop i H ∧ Fin H) ∨ (J.go i H ∧ ∃ Nx : Hp → Prop, (∀ H', Nx H' → ∃ m', m' < m ∧ W (i + 1) m' H') ∧ ∀ x H', J.yld i H x H' → rdG (tb X c) ns g x (L2.wipe σ vs) H' fun σ2 H2 => L2.wipe σ2 vs = L2.wipe σ vs ∧ rdT (tb X c) E0 true tt σ2 H2 fun b H3 =>
      if b = true then rd (tb X c) E0 true fe σ2 H3 fun y H4 => ∃ acc, H4 Dn = some (.lst acc) ∧ acc.length < sizeLine ∧ Nx (upd H4 Dn (.lst (acc ++ [y]))) else Nx H3) := by
  have n0 : ∀ j, ¬ OwnAt (wipeE e vs) (L2.wipe σ vs) j Dn := fun j o => nD j (wipeE_own o)
  refine ⟨fun i m Hi => m = ds.length - i ∧ i ≤ ds.length ∧ ∃ Gc ec acc vs', Sep (tb X c) B Gc Hi ios ec (L2.wipe σ vs) ∧ Same G Gc ∧ Same Fr Hi ∧ But Dn H Hi ∧ Hi Dn = some (.lst vs') ∧ Reps (tb X c) Gc acc vs' ∧ Gc Dn = none ∧
    (∀ j, ¬ OwnAt ec (L2.wipe σ vs) j Dn) ∧ acc.length ≤ acc0.length + i ∧ compL g tt fe vs (ds.drop i) ec acc = some (accF, einF), ⟨ds.length, by simp, Nat.zero_le _, G, wipeE e vs, acc0, vs0, S.wipe vs, Same.refl _, sF1, fun _ _ _ h => h, hD, r0, gD, n0, Nat.le_refl _, by simpa using hcm⟩, ?_⟩
  rintro i m H3 ⟨rfl, hi, Gc, ec, acc, vs', Sc, sgc, sF, spH, hDn, rac, gDn, nDn, hac, hcomp⟩
  by_cases hlt : i < ds.length
  · right
    refine ⟨IT.go i H3 hlt sF, fun H' => i < ds.length ∧ ∃ Gc ec acc vs', Sep (tb X c) B Gc H' ios ec (L2.wipe σ vs) ∧ Same G Gc ∧ Same Fr H' ∧ But Dn H H' ∧ H' Dn = some (.lst vs') ∧ Reps (tb X c) Gc acc vs' ∧ Gc Dn = none ∧
        (∀ j, ¬ OwnAt ec (L2.wipe σ vs) j Dn) ∧ acc.length ≤ acc0.length + (i + 1) ∧ compL g tt fe vs (ds.drop (i + 1)) ec acc = some (accF, einF), fun H' ⟨h1, h2⟩ => ⟨ds.length - (i + 1), by omega, rfl, by omega, h2⟩, fun x H4 y => ?_⟩
    have hd : ds[i]? = some ds[i] := by simp [hlt]
    obtain ⟨sh, Gy, gy1, gy2, gy3, ry⟩ := IT.yld i H3 x H4 ds[i] sF y hd
    rw [List.drop_eq_getElem_cons hlt] at hcomp
    have Sh := Sc.hold hDn gDn nDn
    obtain ⟨Gj, Sj, sgj, ryj, _⟩ := Sh.join sgc sh gy1 gy2 gy3 ry
    have hcomp : (match g ds[i] ec with
      | none => none
      | some e1 => match tt e1 with
        | some (.ok false e2) => compL g tt fe vs (ds.drop (i + 1)) (wipeE e2 vs) acc
        | some (.ok true e2) => match fe e2 with
          | some (.ok r e3) => match store e3 r with
            | some (y, e4) => compL g tt fe vs (ds.drop (i + 1)) (wipeE e4 vs) (acc ++ [y])
            | none => none
          | _ => none
        | _ => none) = some (accF, einF) := hcomp
    refine ⟨upd B Dn (.lst vs'), Gj, _, ec, ds[i], Sj, ryj, ?_⟩
    cases q1 : g ds[i] ec with
    | none => rw [q1] at hcomp; cases hcomp
    | some ea =>
      rw [q1] at hcomp
      dsimp only at hcomp ⊢
      intro Ga σa Sa sga aga
      have hw : L2.wipe σa vs = L2.wipe σ vs := wipe_agree aga (fun i hi => hsub i hi)
      refine ⟨hw, upd B Dn (.lst vs'), Ga, _, ea, Sa, ?_⟩
      have sBu : Same B (upd B Dn (.lst vs')) := same_upd bD
      have fin : ∀ {Gz Hz : Hp} {ez : List Ent} {acc' : List D} {ws : List V} {Hn : Hp}, Sep (tb X c) (upd B Dn (.lst vs')) Gz Hz ⟨ios.io, fun b => b = Dn ∨ ios.hs b⟩ ez σa → Same Ga Gz → Same H4 Hz → Hn = upd Hz Dn (.lst ws) → Reps (tb X c) Gz acc' ws → acc'.length ≤ acc0.length + (i + 1) →
          compL g tt fe vs (ds.drop (i + 1)) (wipeE ez vs) acc' = some (accF, einF) → (i < ds.length ∧ ∃ Gc ec acc vs', Sep (tb X c) B Gc Hn ios ec (L2.wipe σ vs) ∧ Same G Gc ∧ Same Fr Hn ∧ But Dn H Hn ∧ Hn Dn = some (.lst vs') ∧ Reps (tb X c) Gc acc vs' ∧ Gc Dn = none ∧
      (∀ j, ¬ OwnAt ec (L2.wipe σ vs) j Dn) ∧ acc.length ≤ acc0.length + (i + 1) ∧ compL g tt fe vs (ds.drop (i + 1)) ec acc = some (accF, einF)) := fun {Gz Hz ez acc' ws Hn} Sz sgz spz hn rz hl hc => by
        subst hn
        have Sw := Sz.wipe vs
        rw [hw] at Sw
        have gz : Gz Dn = none := (Sz.hd Dn (Or.inl rfl)).1
        have nz : ∀ j, ¬ OwnAt (wipeE ez vs) (L2.wipe σ vs) j Dn := fun j o => by
          have := (Sw.own o).2.1
          rw [upd_same] at this; cases this
        have Su : Sep (tb X c) B Gz Hz ios (wipeE ez vs) (L2.wipe σ vs) := Sw.unhold sBu fun a ha => ⟨Or.inr ha, (Sc.hd a ha).2⟩
        refine ⟨hlt, Gz, wipeE ez vs, acc', ws, Su.other gz bD nz, ((sgc.trans sgj).trans sga).trans sgz, fun a o ho => ?_, fun a o n ho => ?_, upd_same, rz, gz, nz, hl, hc⟩
        · rw [upd_ne (ne_of_none ho frD)]
          exact spz a o (sh a o (sF a o ho))
        · rw [upd_ne n]
          exact spz a o (sh a o (spH a o n ho))
      cases q2 : tt ea with
      | none => rw [q2] at hcomp; cases hcomp
      | some ut =>
        rw [q2] at hcomp
        cases ut with
        | ex c => cases hcomp
        | ok b eb =>
          intro Gb Hb Sb sgb spb
          cases b with
          | false =>
            rw [if_neg Bool.false_ne_true]
            dsimp only at hcomp
            have hDb : Hb Dn = some (.lst vs') := Sb.bh Dn _ upd_same
            have e0 : Hb = upd Hb Dn (.lst vs') := by
              funext a
              by_cases e : a = Dn
              · subst e; rw [upd_same, hDb]
              · rw [upd_ne e]
            exact fin Sb sgb (spb rfl) e0 (Reps.mono (((sgj.trans sga).trans sgb)) rac) (by omega) hcomp
          | true =>
            rw [if_pos rfl]
            dsimp only at hcomp
            refine ⟨upd B Dn (.lst vs'), Gb, _, eb, Sb, ?_⟩
            cases q3 : fe eb with
            | none => rw [q3] at hcomp; cases hcomp
            | some uf =>
              rw [q3] at hcomp
              cases uf with
              | ex c => cases hcomp
              | ok rr ed =>
                intro Gd Hd vd Sd sgd spd Vd
                dsimp only at hcomp
                cases q4 : store ed rr with
                | none => rw [q4] at hcomp; cases hcomp
                | some us =>
                  obtain ⟨yy, ee⟩ := us
                  rw [q4] at hcomp
                  dsimp only at hcomp
                  obtain ⟨Gn, Sn, sgn, Vn⟩ := Vd.opd Sd
                  obtain ⟨Ge, Se, sge, re⟩ := Sn.store Vn (by rw [store_norm]; exact q4)
                  have hDd : Hd Dn = some (.lst vs') := Se.bh Dn _ upd_same
                  have rall : Reps (tb X c) Ge acc vs' := Reps.mono ((((sgj.trans sga).trans sgb).trans sgd).trans (sgn.trans sge)) rac
                  refine ⟨vs', hDd, ?_, ?_⟩
                  · have l1 : vs'.length = acc.length := Reps.length rac
                    have l2 : sizeLine = 16777216 := sizeLine_eq
                    omega
                  · exact fin Se ((sgb.trans sgd).trans (sgn.trans sge)) ((spb rfl).trans (spd rfl)) rfl (rall.app (show Reps (tb X c) Ge [yy] [vd] from ⟨vd, [], rfl, re, rfl⟩)) (by rw [List.length_append]; simp; omega) hcomp
  · left
    have e : i = ds.length := by omega
    subst e
    refine ⟨IT.stop H3 sF, ?_⟩
    rw [List.drop_length] at hcomp
    have hcomp : some (acc, ec) = some (accF, einF) := hcomp
    cases hcomp
    exact hfin Gc H3 vs' Sc sgc spH hDn rac gDn nDn hac
end
def compL2 (g : FG) (tt : FT) (it1 : FI) (g1 : FG) (tt1 : FT) (fe : F) (own vs1 : List Nat) : List D → List Ent → List D → Option (List D × List Ent)
  | [], e, acc => some (acc, e)
  | d :: ds, e, acc => match g d e with
    | none => none
    | some e1 => match tt e1 with
      | some (.ok false e2) => compL2 g tt it1 g1 tt1 fe own vs1 ds (wipeE e2 own) acc
      | some (.ok true e2) => match it1 e2 with
        | some (.ok _ ds1 e3) => if acc.length + ds1.length ≤ 1000000 then match compL g1 tt1 fe vs1 ds1 (wipeE e3 vs1) acc with
          | some (acc2, e4) => compL2 g tt it1 g1 tt1 fe own vs1 ds (wipeE e4 own) acc2
          | none => none
          else none
        | _ => none
      | _ => none
def compF2 (own vs1 : List Nat) (it : FI) (g : FG) (tt : FT) (it1 : FI) (g1 : FG) (tt1 : FT) (fe : F) : F := fun env => match it env with
  | some (.ok _ ds e) => match compL2 g tt it1 g1 tt1 fe own vs1 ds (wipeE e own) [] with
      | none => none
      | some (acc, ein) => match backE e ein own with
        | none => none
        | some e2 => some (.ok (.fr (.lst acc)) e2)
  | some (.ex c) => some (.ex c)
  | none => none
section
variable {X : Cx} {c : Tc} {E : XK} {pos : Pos} {tg iter elt tg1 iter1 : Expr} {ifs ifs1 : List Expr} {scope : Scope} {own : List (Str × Nat)} {ns ns1 vs1 : List Nat} {p : Bool} {it it1 : FI} {g g1 : FG} {tt tt1 : FT} {fe : F}
theorem lc2_core' {σ : L2.St} {H : Hp} {Q : VK} (hsub : ∀ i ∈ ns, i ∈ own.map (·.2)) (hsub1 : ∀ i ∈ ns1, i ∈ vs1) (hv : ∀ i ∈ vs1, i ∈ own.map (·.2)) (h : rd (tb X c) E p (compF2 (own.map (·.2)) vs1 it g tt it1 g1 tt1 fe) σ H Q) :
    tLc2 (rdI (tb X c) E p it) (rdG (tb X c) ns g) (rdT (tb X c) E0 true tt) (rdI (tb X c) E0 true it1) (rdG (tb X c) ns1 g1) (rdT (tb X c) E0 true tt1) (rd (tb X c) E0 true fe) (own.map (·.2)) vs1 σ H Q := by
  obtain ⟨B, G, ios, env, S, h⟩ := h
  refine ⟨B, G, ios, env, S, ?_⟩
  generalize hvs : own.map (·.2) = vs at *
  unfold compF2 at h
  cases k0 : it env with
  | none => rw [k0] at h; exact h.elim
  | some u => cases u with
    | ex c => rw [k0] at h; exact h
    | ok ops ds e1 =>
      rw [k0] at h
      dsimp only at h
      intro G1 H1 J S1 sg1 sp1 hJ Dn hD
      cases k2 : compL2 g tt it1 g1 tt1 fe vs vs1 ds (wipeE e1 vs) [] with
      | none => rw [k2] at h; exact h.elim
      | some u2 =>
        obtain ⟨accF, einF⟩ := u2
        rw [k2] at h
        dsimp only at h
        cases k3 : backE e1 einF vs with
        | none => rw [k3] at h; exact h.elim
        | some e2 =>
          rw [k3] at h
          dsimp only at h
          have IT := hJ H1 S1.gh (fun _ _ _ _ => rfl)
          have bD : B Dn = none := none_of_same S1.bh hD
          have gD : G1 Dn = none := none_of_same S1.gh hD
          refine ⟨fun i m H => m = ds.length - i ∧ i ≤ ds.length ∧ ∃ Gc ec acc vs', Sep (tb X c) B Gc H ios ec (L2.wipe σ vs) ∧ Same G1 Gc ∧ Same H1 H ∧ H Dn = some (.lst vs') ∧ Reps (tb X c) Gc acc vs' ∧ Gc Dn = none ∧
            (∀ j, ¬ OwnAt ec (L2.wipe σ vs) j Dn) ∧ compL2 g tt it1 g1 tt1 fe vs vs1 (ds.drop i) ec acc = some (accF, einF), ⟨ds.length, by simp, Nat.zero_le _, G1, wipeE e1 vs, [], [], ?_⟩, ?_⟩
          · have n0 : ∀ j, ¬ OwnAt (wipeE e1 vs) (L2.wipe σ vs) j Dn := fun j o => by
              obtain ⟨_, _, ob, ho⟩ := S1.own (wipeE_own o)
              rw [hD] at ho; cases ho
            exact ⟨(S1.wipe vs).other gD bD n0, Same.refl _, same_upd hD, upd_same, rfl, gD, n0, by simpa using k2⟩
          · rintro i m H3 ⟨rfl, hi, Gc, ec, acc, vs', Sc, sgc, sF, hDn, rac, gDn, nDn, hcomp⟩
            by_cases hlt : i < ds.length
            · right
              refine ⟨IT.go i H3 hlt sF, fun H' => i < ds.length ∧ ∃ Gc ec acc vs', Sep (tb X c) B Gc H' ios ec (L2.wipe σ vs) ∧ Same G1 Gc ∧ Same H1 H' ∧ H' Dn = some (.lst vs') ∧ Reps (tb X c) Gc acc vs' ∧ Gc Dn = none ∧
                (∀ j, ¬ OwnAt ec (L2.wipe σ vs) j Dn) ∧ compL2 g tt it1 g1 tt1 fe vs vs1 (ds.drop (i + 1)) ec acc = some (accF, einF), fun H' ⟨h1, h2⟩ => ⟨ds.length - (i + 1), by omega, rfl, by omega, h2⟩, fun x H4 y => ?_⟩
              have hd : ds[i]? = some ds[i] := by simp [hlt]
              obtain ⟨sh, Gy, gy1, gy2, gy3, ry⟩ := IT.yld i H3 x H4 ds[i] sF y hd
              rw [List.drop_eq_getElem_cons hlt] at hcomp
              have Sh := Sc.hold hDn gDn nDn
              obtain ⟨Gj, Sj, sgj, ryj, _⟩ := Sh.join sgc sh gy1 gy2 gy3 ry
              unfold compL2 at hcomp
              refine ⟨upd B Dn (.lst vs'), Gj, _, ec, ds[i], Sj, ryj, ?_⟩
              cases q1 : g ds[i] ec with
              | none => rw [q1] at hcomp; cases hcomp
              | some ea =>
                rw [q1] at hcomp
                dsimp only at hcomp ⊢
                intro Ga σa Sa sga aga
                have hw : L2.wipe σa vs = L2.wipe σ vs := wipe_agree aga (fun i hi => hsub i hi)
                refine ⟨hw, upd B Dn (.lst vs'), Ga, _, ea, Sa, ?_⟩
                have sBu : Same B (upd B Dn (.lst vs')) := same_upd bD
                have unh : ∀ {Gz Hz : Hp} {ez : List Ent}, Sep (tb X c) (upd B Dn (.lst vs')) Gz Hz ⟨ios.io, fun b => b = Dn ∨ ios.hs b⟩ ez σa → Sep (tb X c) B Gz Hz ios ez σa ∧ Gz Dn = none ∧ Hz Dn = some (.lst vs') ∧ ∀ j, ¬ OwnAt ez σa j Dn := fun {Gz Hz ez} Sz =>
                  ⟨Sz.unhold sBu fun a ha => ⟨Or.inr ha, (Sc.hd a ha).2⟩, (Sz.hd Dn (Or.inl rfl)).1, Sz.bh Dn _ upd_same, fun j o => by
                    have := (Sz.own o).2.1
                    rw [upd_same] at this; cases this⟩
                cases q2 : tt ea with
                | none => rw [q2] at hcomp; cases hcomp
                | some ut =>
                  rw [q2] at hcomp
                  cases ut with
                  | ex c => cases hcomp
                  | ok b eb =>
                    intro Gb Hb Sb sgb spb
                    have sgG : Same G1 Gb := ((sgc.trans sgj).trans sga).trans sgb
                    have sHb : Same H1 Hb := (sF.trans sh).trans (spb rfl)
                    cases b with
                    | false =>
                      rw [if_neg Bool.false_ne_true]
                      dsimp only at hcomp
                      obtain ⟨Su, u1, u2, u3⟩ := unh Sb
                      have Sw := Su.wipe vs
                      rw [hw] at Sw
                      exact ⟨hlt, Gb, wipeE eb vs, acc, vs', Sw, sgG, sHb, u2, Reps.mono ((sgj.trans sga).trans sgb) rac, u1, fun j o => u3 j (wipeE_own (by rw [hw]; exact o)), hcomp⟩
                    | true =>
                      rw [if_pos rfl]
                      dsimp only at hcomp
                      refine ⟨upd B Dn (.lst vs'), Gb, _, eb, Sb, ?_⟩
                      cases q3 : it1 eb with
                      | none => rw [q3] at hcomp; cases hcomp
                      | some ui =>
                        rw [q3] at hcomp
                        cases ui with
                        | ex c => cases hcomp
                        | ok ops1 ds1 e3 =>
                          intro Gi Hi J1 Si sgi spi hJ1
                          dsimp only at hcomp
                          split at hcomp
                          · rename_i hlen
                            cases q4 : compL g1 tt1 fe vs1 ds1 (wipeE e3 vs1) acc with
                            | none => rw [q4] at hcomp; cases hcomp
                            | some u4 =>
                              obtain ⟨acc2, e4⟩ := u4
                              rw [q4] at hcomp
                              dsimp only at hcomp
                              obtain ⟨Su, u1, u2, u3⟩ := unh Si
                              have nD : ∀ a, cut [Dn] Hi a = none ∨ (a ≠ Dn ∧ cut [Dn] Hi a = Hi a) := fun a => by
                                unfold cut
                                by_cases z : a ∈ [Dn]
                                · rw [if_pos z]; exact .inl rfl
                                · rw [if_neg z]; exact .inr ⟨by simpa using z, rfl⟩
                              have IT1 := hJ1 (cut [Dn] Hi) (fun a o ho => by
                                have n : a ≠ Dn := ne_of_none ho u1
                                unfold cut
                                rw [if_neg (by simpa using n)]
                                exact Si.gh a o ho) (fun l hl a o => by
                                have n : a ≠ Dn := fun z => u3 l (by rw [← z]; exact o)
                                unfold cut
                                rw [if_neg (by simpa using n)])
                              refine lc_turns (X := X) (c := c) (vs := vs1) hsub1 Su u1 bD u3 u2 (Reps.mono (((sgj.trans sga).trans sgb).trans sgi) rac) IT1 (by unfold cut; rw [if_pos (by simp)]) (fun a o ho => by
                                rcases nD a with z | ⟨_, z⟩
                                · rw [z] at ho; cases ho
                                · rw [z] at ho; exact ho) (by omega) q4 fun Gf Hf vf Sf sgf bf hDf rf gf nf lf => ?_
                              have Sw := Sf.wipe vs
                              rw [wipe_wipe hv, hw] at Sw
                              refine ⟨hlt, Gf, wipeE e4 vs, acc2, vf, Sw, (sgG.trans sgi).trans sgf, fun a o ho => ?_, hDf, rf, gf, fun j o => nf j (wipeE_own (by rw [wipe_wipe hv, hw]; exact o)), hcomp⟩
                              exact bf a o (ne_of_none ho hD) (spi rfl a o (sHb a o ho))
                          · cases hcomp
            · left
              have e : i = ds.length := by omega
              subst e
              refine ⟨IT.stop H3 sF, ?_⟩
              rw [List.drop_length] at hcomp
              have hcomp : some (acc, ec) = some (accF, einF) := hcomp
              cases hcomp
              have Sf : Sep (tb X c) B Gc H3 ios e2 σ := Sep.back S1 Sc sgc k3
              exact h Gc H3 (.ref Dn) Sf (sg1.trans sgc) (fun z => (sp1 z).trans sF) ⟨Dn, rfl, ⟨vs', hDn, rac, gDn, bD⟩, fun j o => nDn j (back_own (backE_length k3) k3 o)⟩
theorem se_lc2 (hc : X.calm = true) (nd : X.N.Nodup) (ok : BlkOk X.N X.env.scope scope own) (hi : SI X c E p tg iter it) (hsub : ∀ i ∈ ns, i ∈ own.map (·.2)) (hsub1 : ∀ i ∈ ns1, i ∈ vs1) (hv : ∀ i ∈ vs1, i ∈ own.map (·.2))
    (hg : ∀ (s : Shared) (H : Hp) (C : Addr) (cl : List (Str × Addr)) (fp : List Addr), SG (X.blk s H scope (compEnvC scope cl C X.env) fp) c ns tg g)
    (ht : ∀ (s : Shared) (H : Hp) (C : Addr) (cl : List (Str × Addr)) (fp : List Addr), SIf (X.blk s H scope (compEnvC scope cl C X.env) fp) c E0 true ifs tt)
    (hi1 : ∀ (s : Shared) (H : Hp) (C : Addr) (cl : List (Str × Addr)) (fp : List Addr), SI (X.blk s H scope (compEnvC scope cl C X.env) fp) c E0 true tg1 iter1 it1)
    (hg1 : ∀ (s : Shared) (H : Hp) (C : Addr) (cl : List (Str × Addr)) (fp : List Addr), SG (X.blk s H scope (compEnvC scope cl C X.env) fp) c ns1 tg1 g1)
    (ht1 : ∀ (s : Shared) (H : Hp) (C : Addr) (cl : List (Str × Addr)) (fp : List Addr), SIf (X.blk s H scope (compEnvC scope cl C X.env) fp) c E0 true ifs1 tt1)
    (he : ∀ (s : Shared) (H : Hp) (C : Addr) (cl : List (Str × Addr)) (fp : List Addr), SE (X.blk s H scope (compEnvC scope cl C X.env) fp) c E0 true elt fe) (hs : ∀ x, foldedSetIterable iter X.env x = pure x := by intro _; rfl) (hs1 : ∀ env x, foldedSetIterable iter1 env x = pure x := by intro _ _; rfl) :
    SE X c E p (.ListComp elt [⟨tg, iter, ifs, 0⟩, ⟨tg1, iter1, ifs1, 0⟩] scope pos) (compF2 (own.map (·.2)) vs1 it g tt it1 g1 tt1 fe) :=
  ⟨PE.weak (pe_lc2 hc nd hi.run ok hv (fun s H C cl fp => (hg s H C cl fp).run) (fun s H C cl fp => (ht s H C cl fp).run) (fun s H C cl fp => (hi1 s H C cl fp).run) (fun s H C cl fp => (hg1 s H C cl fp).run) (fun s H C cl fp => (ht1 s H C cl fp).run) (fun s H C cl fp => (he s H C cl fp).run) hs hs1) fun _ _ _ h => lc2_core' hsub hsub1 hv h⟩
theorem ss_setLc2 {i : Nat} {y : Str} {py spos : Pos} (hc : X.calm = true) (nd : X.N.Nodup) (ok : BlkOk X.N X.env.scope scope own) (hi : SI X c E p tg iter it) (hsub : ∀ i ∈ ns, i ∈ own.map (·.2)) (hsub1 : ∀ i ∈ ns1, i ∈ vs1) (hv : ∀ i ∈ vs1, i ∈ own.map (·.2))
    (hg : ∀ (s : Shared) (H : Hp) (C : Addr) (cl : List (Str × Addr)) (fp : List Addr), SG (X.blk s H scope (compEnvC scope cl C X.env) fp) c ns tg g)
    (ht : ∀ (s : Shared) (H : Hp) (C : Addr) (cl : List (Str × Addr)) (fp : List Addr), SIf (X.blk s H scope (compEnvC scope cl C X.env) fp) c E0 true ifs tt)
    (hi1 : ∀ (s : Shared) (H : Hp) (C : Addr) (cl : List (Str × Addr)) (fp : List Addr), SI (X.blk s H scope (compEnvC scope cl C X.env) fp) c E0 true tg1 iter1 it1)
    (hg1 : ∀ (s : Shared) (H : Hp) (C : Addr) (cl : List (Str × Addr)) (fp : List Addr), SG (X.blk s H scope (compEnvC scope cl C X.env) fp) c ns1 tg1 g1)
    (ht1 : ∀ (s : Shared) (H : Hp) (C : Addr) (cl : List (Str × Addr)) (fp : List Addr), SIf (X.blk s H scope (compEnvC scope cl C X.env) fp) c E0 true ifs1 tt1)
    (he : ∀ (s : Shared) (H : Hp) (C : Addr) (cl : List (Str × Addr)) (fp : List Addr), SE (X.blk s H scope (compEnvC scope cl C X.env) fp) c E0 true elt fe)
    (hsw : swapsWith (.ListComp elt [⟨tg, iter, ifs, 0⟩, ⟨tg1, iter1, ifs1, 0⟩] scope pos) (some (.Name y py)) spos.line X.env = pure true)
    (hy : X.N[i]? = some y := by rfl) (hyl : X.env.scope.names.lookup y = some .local := by rfl) (hs : ∀ x, foldedSetIterable iter X.env x = pure x := by intro _; rfl) (hs1 : ∀ env x, foldedSetIterable iter1 env x = pure x := by intro _ _; rfl) :
    SS X c E (.Assign [.Name y py] (.ListComp elt [⟨tg, iter, ifs, 0⟩, ⟨tg1, iter1, ifs1, 0⟩] scope pos) spos) (setF i (compF2 (own.map (·.2)) vs1 it g tt it1 g1 tt1 fe)) :=
  ss_set_of (ps_setLc2 hc nd hy hyl hsw hi.run ok hv (fun s H C cl fp => (hg s H C cl fp).run) (fun s H C cl fp => (ht s H C cl fp).run) (fun s H C cl fp => (hi1 s H C cl fp).run) (fun s H C cl fp => (hg1 s H C cl fp).run) (fun s H C cl fp => (ht1 s H C cl fp).run) (fun s H C cl fp => (he s H C cl fp).run) hs hs1) fun _ _ _ h => lc2_core' hsub hsub1 hv h
end
end Ev
/-! == and != of an own class by its __eq__ -/
namespace Ev
open PySem PySem.Spec L2
section
variable {P : Program} {w : World} {A : Around} {E : Value → Shared → Prop} {s : Shared} {K : PySem.W.Frag} {x C L f : Addr} {h₀ : Heap} {m : Str → Option Value} {ox : Obj} {od : Option Obj} {b tb : Value}
theorem bound_ne {M : Model} {args : List Value} {Q : Option Value → Shared → Prop} (X : K.In s.heap) (I : PySem.W.InstAt s.heap x ox C od) (hs : PySem.W.findIn K (.ref C) "__ne__" = some (some (.builtin "object.__ne__")))
    (h : wpAny M A (call (.builtin "object.__ne__") (.ref x :: args)) (fun v => Q (some v)) E s) : wpAny M A (callSpecialIfBound? (.ref x) "__ne__" args) Q E s := by
  simp only [callSpecialIfBound?, bindSpecialIfBound?]
  refine wpAny_holding (wpAny_bind (wpAny_bind (wpAny_bind (I.type.here ((PySem.W.looks_findIn X hs).here (wpAny_bind (wpAny_askSetting (wpAny_ite ?_))))))))
  have end_ : wpAny M A (call (.builtin "object.__ne__") ([.ref x] ++ args) >>= fun v => pure (some v)) Q E s := wpAny_bind (wpAny_mono h (fun v s' q => wpAny_pure q) fun _ _ q => q)
  split
  · exact wpAny_bind (wpAny_of_eq (F.cmp_object.ne.bind _) (wpAny_pure (by exact end_)))
  · exact wpAny_tryCatch (wpAny_bind (wpAny_of_eq (F.cmp_object.ne.bind _) (wpAny_pure (by exact end_))))
def NotBack (Q : Value → Shared → Prop) (v : Value) (s' : Shared) : Prop := ∃ r, v = .bool r ∧ Q (.bool (!r)) s'
theorem entry_ne (hu : A.units < cLine) (X : K.In s.heap) (I : PySem.W.InstAt s.heap x ox C od) (hs : PySem.W.findIn K (.ref C) "__eq__" = some (some (.ref f))) (hf : PySem.W.isFn K (.ref f) = true) {Q : Value → Shared → Prop}
    (h : wpAny (model P w) A (call (.ref f) [.ref x, b]) (NotBack Q) E s) : wpAny (model P w) A (Builtin.«object.__ne__» ⟨[.ref x, b], []⟩) (fun fin s' => ∃ v, fin = .done (.ret v) ∧ Q v s') E s := by
  unfold Builtin.«object.__ne__»
  have key : wpAny (model P w) A (callSpecialIfBound? (.ref x) (Str.ofString "__eq__") [b]) (fun r s' => ∃ v, r = some (.bool v) ∧ Q (.bool (!v)) s') E s :=
    PySem.W.ifBound_K X I hs hf (wpAny_mono h (fun v s' ⟨r, e, q⟩ => ⟨r, by rw [e], q⟩) fun _ _ q => q)
  repeat (first
    | with_reducible refine wpAny_cRoomFor hu ?_
    | (refine wpAny_bind (m := callSpecialIfBound? (.ref x) (Str.ofString "__eq__") [b]) (wpAny_mono key (fun r s' hr => by
          obtain ⟨v, rfl, hq⟩ := hr
          repeat (first | exact ⟨_, rfl, hq⟩ | exact wpAny_pure ⟨_, rfl, hq⟩ | (refine wpAny_bind (m := truthy (.bool _)) (wpAny_truthy_bool ?_)) | wp_step)) fun _ _ e => e))
    | wp_step)
theorem ne_K {Q : Value → Shared → Prop} (hu : A.units + 1 < cLine) (Fm : PyProof.Rows.Fr h₀ L s.heap m) (X₀ : K.In h₀) (I : PySem.W.InstAt s.heap x ox C od) (hb : PySem.W.Looks (model P w) s.heap (typeOf b) tb) (hn : PySem.W.notFirst K C tb = true) (hm : PySem.W.mroIn K C (.type "object") = some true)
    (hne : PySem.W.findIn K (.ref C) "__ne__" = some (some (.builtin "object.__ne__"))) (hs : PySem.W.findIn K (.ref C) "__eq__" = some (some (.ref f))) (hf : PySem.W.isFn K (.ref f) = true)
    (h : wpAny (model P w) A.in1 (call (.ref f) [.ref x, b]) (NotBack (PySem.W.CmpBack Q)) E s) : wpAny (model P w) A (richCompare .NotEq (.ref x) b) Q E s := by
  have X := X₀.keeps Fm.keep
  have hu0 : A.units < cLine := Nat.lt_of_succ_lt hu
  have hc : wpAny (model P w) A (call (.builtin "object.__ne__") [.ref x, b]) (PySem.W.CmpBack Q) E s :=
    wpAny_call (codeAny_call_builtin F.cmp_object.ne.plain F.cmpEntry_ne (PySem.W.check_slot F.cmpKind_ne F.cmpSplit_ne (I.type.andThen (PySem.W.looks_mroIn X hm)) (F.cmpArgs_ne _ _) (wpAny_mono (entry_ne (A := A.in1) hu X I hs hf h) (fun v s' q => by obtain ⟨v, rfl, q⟩ := q; exact q) fun _ _ q => q)))
  have one : wpAny (model P w) A (tryCompare (.ref x) "__ne__" b) (fun r s' => ∃ v, r = some v ∧ Q v s') E s := by
    unfold tryCompare
    refine wpAny_bind (bound_ne X I hne (wpAny_mono hc (fun v s' hv => ?_) fun _ _ e => e))
    cases v <;> first | exact hv.elim | exact wpAny_pure ⟨_, rfl, hv⟩
  unfold richCompare
  simp only [oneThing_ref]
  refine wpAny_holding (wpAny_bind (wpAny_cRoomFor hu0 (wpAny_bind (I.type.here (wpAny_bind (hb.here ?_))))))
  have last : wpAny (model P w) A (tryCompare (.ref x) (cmpInfo .NotEq).2.1 b) (fun r s' => ∃ v, r = some v ∧ Q v s') E s := one
  split
  · rename_i q
    have e : PySem.W.subIn K tb (.ref C) = some false := by
      rcases Bool.or_eq_true_iff.mp hn with e | e
      · rw [beq_iff_eq.mp e] at q; simp at q
      · exact beq_iff_eq.mp e
    refine wpAny_bind ((PySem.W.looks_subIn X e).here ?_)
    simp only [Bool.false_eq_true, if_false]
    refine wpAny_bind (wpAny_mono last (fun r s' z => ?_) fun _ _ e => e)
    obtain ⟨v, rfl, hq⟩ := z
    exact wpAny_pure hq
  · refine wpAny_bind (wpAny_pure ?_)
    simp only [Bool.false_eq_true, if_false]
    refine wpAny_bind (wpAny_mono last (fun r s' z => ?_) fun _ _ e => e)
    obtain ⟨v, rfl, hq⟩ := z
    exact wpAny_pure hq
end
/-! ### x in l, by own == -/
section
variable {P : Program} {w : World} {A : Around} {s : Shared} {R : PySem.Result → Shared → Prop}
open AutoSeq1 (wpAny_loadPart')
open MeetsSeq MeetsSeq2 MeetsSeq3 SeqRoads2
open GQ (FinOf call_here)
/-- each turn reads the list anew; the i-th answer is bs[i] -/
def TurnsI (P : Program) (w : World) (A : Around) (E : Value → Shared → Prop) (l : Addr) (x : Value) (bs : List Bool) (I : Nat → Shared → Prop) : Prop :=
  ∀ i s, I i s → ∃ (its : Array Value) (n : Nat) (dd : Option Addr) (sl : Array (Option Value)), s.heap.get? l = some { cls := .type "list", dict := dd, data := .seq its n, slots := sl } ∧ its.size = bs.length ∧
    ∀ (h : i < its.size) (h2 : i < bs.length), wpAny (model P w) A.in1 (eqBool its[i] x) (fun r s' => r = bs[i] ∧ I (i + 1) s') E s
theorem contains_loopI {l : Addr} {x : Value} {bs : List Bool} {I : Nat → Shared → Prop} (hl : TurnsI P w A (fun e s' => R (.error e) s') l x bs I) (fin : ∀ i s c, I i s → c = bs.any id → R (.ok (.ret (.bool c))) s) (k : Nat) :
    ∀ i : Nat, bs.length - i = k → i ≤ bs.length → (bs.take i).any id = false → ∀ s, I i s → wpAny (model P w) A.in1 (Builtin.«list.__contains__.loop» ⟨[.ref l, x, rawInt i], []⟩) (FinOf P w A R) (fun e s' => R (.error e) s') s := by
  induction k with
  | zero =>
    intro i hk hi hno s h
    obtain ⟨its, n, dd, sl, hl1, hs1, _⟩ := hl _ _ h
    have hR : R (.ok (.ret (.bool false))) s := fin i s false h (by
      have : bs.take i = bs := List.take_of_length_le (by omega)
      rw [this] at hno; exact hno.symm)
    obtain ⟨hp, g, d, tk, os⟩ := s
    wp_walk using wpAny_loadPart' hl1
    have hi1 : its[((i : Nat) : Int).toNat]? = none := by simp; omega
    rw [hi1]
    wp_walk
    exact hR
  | succ k ih =>
    intro i hk hi hno s h
    obtain ⟨its, n, dd, sl, hl1, hs1, turn⟩ := hl _ _ h
    have hlt : i < its.size := by omega
    have hb : i < bs.length := by omega
    have ht := turn hlt hb
    obtain ⟨hp, g, d, tk, os⟩ := s
    wp_walk using wpAny_loadPart' hl1
    have hi1 : its[((i : Nat) : Int).toNat]? = some its[i] := by simp [hlt]
    rw [hi1]
    refine wpAny_bind (wpAny_mono ht (fun r s2 h2 => ?_) fun _ _ x => x)
    obtain ⟨hr, h2⟩ := h2
    subst hr
    have take1 : (bs.take (i + 1)).any id = bs[i] := by
      rw [List.take_succ, List.any_append, hno]
      simp [hb]
    cases hbi : bs[i] with
    | true =>
      have hR : R (.ok (.ret (.bool true))) s2 := fin (i + 1) s2 true h2 (by
        symm
        rw [List.any_eq_true]
        exact ⟨bs[i], List.getElem_mem hb, hbi⟩)
      obtain ⟨hp2, g2, d2, tk2, os2⟩ := s2
      wp_walk
      exact hR
    | false =>
      have rec_ := ih (i + 1) (by omega) (by omega) (by rw [take1, hbi]) s2 h2
      obtain ⟨hp2, g2, d2, tk2, os2⟩ := s2
      have hc : ((i : Int) + 1) = ((i + 1 : Nat) : Int) := by omega
      wp_walk
      rw [hc]
      exact ⟨plainId_quiet plain_contains_loop _, codeAny_builtin entry_contains_loop (by
        rw [Around.under_plainId plain_contains_loop _]
        exact rec_)⟩
theorem list_containsI {l : Addr} {x : Value} {bs : List Bool} {I : Nat → Shared → Prop} (hl : TurnsI P w A (fun e s' => R (.error e) s') l x bs I) (fin : ∀ i s c, I i s → c = bs.any id → R (.ok (.ret (.bool c))) s) (h : I 0 s) :
    wpAny (model P w) A.in1 (Builtin.«list.__contains__» ⟨[.ref l, x], []⟩) (FinOf P w A R) (fun e s' => R (.error e) s') s := by
  have go := contains_loopI hl fin bs.length 0 (by omega) (Nat.zero_le _) (by simp) s h
  obtain ⟨its, n, dd, sl, hl1, _⟩ := hl _ _ h
  obtain ⟨hp, g, d, tk, os⟩ := s
  wp_walk using wpAny_loadPart' hl1
  exact ⟨plainId_quiet plain_contains_loop _, codeAny_builtin entry_contains_loop (by
    rw [Around.under_plainId plain_contains_loop _]
    exact go)⟩
theorem in_I {l : Addr} {x : Value} {bs : List Bool} {I : Nat → Shared → Prop} {E Q : Value → Shared → Prop} (neg : Bool) (hl : TurnsI P w A E l x bs I) (fin : ∀ i s, I i s → Q (.bool (xor neg (bs.any id))) s) (h : I 0 s) :
    wpAny (model P w) A (compareOp (if neg = true then .NotIn else .In) x (.ref l)) Q E s := by
  obtain ⟨its, n, dd, sl, hl1, _⟩ := hl _ _ h
  have hc : wpAny (model P w) A (call (.builtin "list.__contains__") [.ref l, x]) (fun v s' => ∃ b, v = .bool b ∧ Q (.bool (xor neg b)) s') E s :=
    call_here F.slot_list_contains ⟨_, hl1, rfl⟩ F.entry_list_contains (F.args_list_contains_2 _ _) (list_containsI hl (fun i s c hi e => ⟨c, rfl, by rw [e]; exact fin i s hi⟩) h)
  cases neg with
  | true =>
    rw [if_pos rfl]
    show wpAny _ A (do return .bool (!(← contains (.ref l) x))) Q E s
    refine wpAny_bind (wpAny_contains_slot ⟨_, hl1, rfl⟩ F.slot_list_contains (wpAny_mono hc (fun v s' hv => ?_) fun _ _ e => e))
    obtain ⟨b, rfl, hq⟩ := hv
    exact wpAny_truthy_bool (wpAny_pure (by rw [Bool.true_xor] at hq; exact hq))
  | false =>
    rw [if_neg Bool.false_ne_true]
    show wpAny _ A (do return .bool (← contains (.ref l) x)) Q E s
    refine wpAny_bind (wpAny_contains_slot ⟨_, hl1, rfl⟩ F.slot_list_contains (wpAny_mono hc (fun v s' hv => ?_) fun _ _ e => e))
    obtain ⟨b, rfl, hq⟩ := hv
    exact wpAny_truthy_bool (wpAny_pure (by rw [Bool.false_xor] at hq; exact hq))
end

/-! ### by data: a class whose __eq__ compares all its fields -/
def eqIns (cl nf : Nat) : D → D → Option Bool
  | .ins k ds, .ins j es => if k = cl ∧ j = cl ∧ ds.length = nf ∧ es.length = nf then eqD (.tup ds) (.tup es) else none
  | _, _ => none
def eqWF (cl nf : Nat) : Fn := fun ds => match ds with
  | [a, b] => (eqIns cl nf a b).map fun r => .ok (.sh (.bl r))
  | _ => none
theorem eqIns_ins {cl nf : Nat} {a b : D} {r : Bool} (h : eqIns cl nf a b = some r) : ∃ ds es p q, a = .ins cl ds ∧ b = .ins cl es ∧ toPys ds = some p ∧ toPys es = some q ∧ SeqAt.shaped (.tuple p) = true ∧ SeqAt.shaped (.tuple q) = true ∧ r = PyData.eqv (.tuple p) (.tuple q) := by
  unfold eqIns at h
  split at h
  · rename_i k ds j es
    split at h
    · rename_i hk
      obtain ⟨rfl, rfl, _⟩ := hk
      unfold eqD at h
      cases k1 : toPy (.tup ds) with
      | none => simp only [k1] at h; cases h
      | some p =>
        cases k2 : toPy (.tup es) with
        | none => simp only [k1, k2] at h; cases h
        | some q =>
          simp only [k1, k2] at h
          split at h
          · rename_i hs
            cases h
            simp only [toPy] at k1 k2
            cases k3 : toPys ds with
            | none => rw [k3] at k1; cases k1
            | some p' =>
              cases k4 : toPys es with
              | none => rw [k4] at k2; cases k2
              | some q' =>
                rw [k3] at k1; cases k1
                rw [k4] at k2; cases k2
                exact ⟨ds, es, p', q', rfl, rfl, k3, k4, hs.1, hs.2, rfl⟩
          · cases h
    · cases h
  · cases h
/-- what == needs to know of the class -/
structure EqCls (X : Cx) (c : Tc) (cl nf : Nat) (n : Nat) : Prop where
  ex : ∃ C f fd ps, (c.ct cl).1 = C ∧ FnG X.prog X.w X.K X.mg X.base (L2.CX X.prog X.w) n f fd ps (spP (tb X c) (eqWF cl nf)) ∧ PySem.W.findIn X.K (.ref C) "__eq__" = some (some (.ref f)) ∧ PySem.W.isFn X.K (.ref f) = true ∧ Binds X.K fd ps [] ∧
    PySem.W.mroIn X.K C (.type "object") = some true ∧ PySem.W.findIn X.K (.ref C) "__ne__" = some (some (.builtin "object.__ne__")) ∧ ((c.ct cl).2).Nodup
theorem lookup_mem : ∀ {fs : List (Str × V)} {k : Str} {v : V}, (fs.map (·.1)).Nodup → (k, v) ∈ fs → fs.lookup k = some v
  | (k', v') :: fs, k, v, nd, h => by
    rw [List.map_cons, List.nodup_cons] at nd
    rw [List.lookup_cons]
    rcases List.mem_cons.mp h with e | hm
    · cases e; simp
    · have : (k == k') = false := by
        rw [beq_eq_false_iff_ne]
        intro e
        subst e
        exact nd.1 (List.mem_map.mpr ⟨(k, v), hm, rfl⟩)
      rw [this]
      exact lookup_mem nd.2 hm
theorem vals_of : ∀ {vs : List V}, (∀ v ∈ vs, ∃ u, RelV v u) → ∃ us, Vals vs us
  | [], _ => ⟨[], .nil⟩
  | v :: vs, h => by
    obtain ⟨u, hu⟩ := h v List.mem_cons_self
    obtain ⟨us, hus⟩ := vals_of fun w hw => h w (List.mem_cons_of_mem _ hw)
    exact ⟨u :: us, .cons hu hus⟩
section
variable {X : Cx} {c : Tc} {n cl nf : Nat} {f : Addr} {fd : FuncData} {ps : List Str} {E : XK}
theorem Grow.trans {G H G1 H1 G2 H2 : Hp} (a : Grow G H G1 H1) (b : Grow G1 H1 G2 H2) : Grow G H G2 H2 :=
  ⟨a.g.trans b.g, b.gh, a.h.trans b.h, fun x hx gx => b.nw x (by
    intro z
    cases q : H x with
    | none => exact hx q
    | some o => rw [a.h x o q] at z; cases z) (a.nw x hx gx)⟩
theorem own_call {A : Around} {pins : List (Addr × Obj)} {σ : L2.St} {G H : Hp} {s : Shared} {a b : Addr} {d1 d2 : D} {r : Bool} {fn : Fn} (F : FnG X.prog X.w X.K X.mg X.base (L2.CX X.prog X.w) n f fd ps (spP (tb X c) fn)) (hb : Binds X.K fd ps []) (pass : Passes (L2.CX X.prog X.w) X E)
    (hfr : A.frames = X.A.frames) (room : Room n A) (gd : A.guards = some []) (I : Inv X pins σ H s) (sg : Same G H) (ra : Rep (tb X c) G d1 (.ref a)) (rb : Rep (tb X c) G d2 (.ref b)) (he : fn [d1, d2] = some (.ok (.sh (.bl r)))) :
    wpAny (model X.prog X.w) A (call (.ref f) [.ref a, .ref b]) (fun v s' => v = .bool r ∧ ∃ G' H', Inv X pins σ H' s' ∧ Grow G H G' H') X.xe s := by
  have want : spP (tb X c) fn [.ref a, .ref b] H (fun v H' => v = .bl r ∧ ∃ G', Grow G H G' H') E := by
    refine ⟨G, [d1, d2], sg, ⟨_, _, rfl, ra, _, _, rfl, rb, rfl⟩, ?_⟩
    rw [he]
    intro G' H' v g ro
    have ro : Rep (tb X c) G' (.bl r) v := ro
    simp only [Rep] at ro
    exact ⟨ro, G', g⟩
  have e0 : Env0 X.prog X.w X.K X.mg X.base A X.stack s H := by
    have e := I.env0
    exact ⟨by rw [hfr]; exact e.frames, e.mod, e.bs, e.bsz, e.funs, e.frf, e.hok, e.bare⟩
  have hl := F.len _ _ _ _ want
  have r2 : Vals [V.ref a, V.ref b] [Value.ref a, Value.ref b] := .cons rfl (.cons rfl .nil)
  have bt := hb s [.ref a, .ref b] I.kIn (by simpa using hl)
  rw [List.append_nil] at bt
  refine wpAny_call (codeAny_mono (F.go A room gd X.stack s H e0 ⟨[.ref a, .ref b], []⟩ [.ref a, .ref b] [.ref a, .ref b] bt r2 _ E want) fun r s' hq => ?_)
  match r, hq with
  | .error e, hq => exact pass pins σ H s e s' I hq
  | .ok (.ret u), hq =>
    obtain ⟨z, H', I', rz, ez, g⟩ := I.after hq
    subst ez
    have rz : u = Value.bool _ := rz
    obtain ⟨G', g⟩ := g
    exact ⟨rz, G', H', I', g⟩
  | .ok .next, hq => exact hq.elim
  | .ok .brk, hq => exact hq.elim
  | .ok .cont, hq => exact hq.elim
theorem rep_ins {G : Hp} {ds : List D} {v : V} {T : Tb} (h : Rep T G (.ins cl ds) v) : ∃ a dx fs, v = .ref a ∧ G a = some (.ins (T.ct cl).1 dx fs) ∧ fs.map (·.1) = (T.ct cl).2 ∧ Reps T G ds (fs.map (·.2)) := by
  simp only [Rep] at h; exact h
/-- the instance behind a value -/
theorem inst_of {pins : List (Addr × Obj)} {σ : L2.St} {H G : Hp} {s : Shared} (I : Inv X pins σ H s) (sg : Same G H) {ds : List D} {a : Addr} (h : Rep (tb X c) G (.ins cl ds) (.ref a)) : ∃ ox od, PySem.W.InstAt s.heap a ox (c.ct cl).1 od := by
  obtain ⟨a', dx, fs, e, h1, _⟩ := rep_ins h
  cases e
  obtain ⟨mA, J, _⟩ := ins_get I.hok (sg _ _ h1)
  obtain ⟨od, J, _⟩ := J.look
  exact ⟨_, _, J⟩
theorem rc_own {A : Around} {pins : List (Addr × Obj)} {σ : L2.St} {G H : Hp} {s : Shared} {a b : Addr} {d1 d2 : D} {r : Bool} (Q : EqCls X c cl nf n) (pass : Passes (L2.CX X.prog X.w) X E) (hfr : A.frames = X.A.frames) (room : Room n A) (gd : A.guards = some []) (I : Inv X pins σ H s) (sg : Same G H)
    (ra : Rep (tb X c) G d1 (.ref a)) (rb : Rep (tb X c) G d2 (.ref b)) (he : eqIns cl nf d1 d2 = some r) : wpAny (model X.prog X.w) A (richCompare .Eq (.ref a) (.ref b)) (fun v s' => v = .bool r ∧ ∃ G' H', Inv X pins σ H' s' ∧ Grow G H G' H') X.xe s := by
  obtain ⟨C, f, fd, ps, hC, F, hs, hf, hb, hm, hne, _⟩ := Q.ex
  obtain ⟨ds, es, p, q, rfl, rfl, _⟩ := eqIns_ins he
  obtain ⟨ox, od, J⟩ := inst_of I sg ra
  obtain ⟨ox', od', J'⟩ := inst_of I sg rb
  rw [hC] at J J'
  obtain ⟨m, hF⟩ := I.fr
  refine PySem.W.cmp_K (op := .Eq) (tb := .ref C) room.units0 hF I.ok.mod.kin J J'.type (by simp [PySem.W.notFirst]) hs hf ?_
  refine wpAny_mono (own_call (fn := eqWF cl nf) F hb pass hfr room gd I sg ra rb (by unfold eqWF; simp only [he]; rfl)) (fun v s' hv => ?_) fun _ _ e => e
  obtain ⟨rfl, hv⟩ := hv
  exact ⟨rfl, hv⟩
theorem rcn_own {A : Around} {pins : List (Addr × Obj)} {σ : L2.St} {G H : Hp} {s : Shared} {a b : Addr} {d1 d2 : D} {r : Bool} (Q : EqCls X c cl nf n) (pass : Passes (L2.CX X.prog X.w) X E) (hfr : A.frames = X.A.frames) (room : Room (n + 1) A) (gd : A.guards = some []) (I : Inv X pins σ H s) (sg : Same G H)
    (ra : Rep (tb X c) G d1 (.ref a)) (rb : Rep (tb X c) G d2 (.ref b)) (he : eqIns cl nf d1 d2 = some r) : wpAny (model X.prog X.w) A (richCompare .NotEq (.ref a) (.ref b)) (fun v s' => v = .bool (!r) ∧ ∃ G' H', Inv X pins σ H' s' ∧ Grow G H G' H') X.xe s := by
  obtain ⟨C, f, fd, ps, hC, F, hs, hf, hb, hm, hne, _⟩ := Q.ex
  obtain ⟨ds, es, p, q, rfl, rfl, _⟩ := eqIns_ins he
  obtain ⟨ox, od, J⟩ := inst_of I sg ra
  obtain ⟨ox', od', J'⟩ := inst_of I sg rb
  rw [hC] at J J'
  obtain ⟨m, hF⟩ := I.fr
  refine ne_K (tb := .ref C) (by have := room.un; omega) hF I.ok.mod.kin J J'.type (by simp [PySem.W.notFirst]) hm hne hs hf ?_
  refine wpAny_mono (own_call (A := A.in1) (fn := eqWF cl nf) F hb pass hfr room.in1 gd I sg ra rb (by unfold eqWF; simp only [he]; rfl)) (fun v s' hv => ?_) fun _ _ e => e
  obtain ⟨rfl, hv⟩ := hv
  exact ⟨r, rfl, rfl, hv⟩
theorem ev_eqW (Q : EqCls X c cl nf n) (pass : Passes (L2.CX X.prog X.w) X E) (room : Room n X.A) (gd : X.A.guards = some []) : OpR X (compareOp .Eq) (rCm (tb X c) (eqIns cl nf)) := by
  intro pins s σ H x y v u Q' I rx ry h
  obtain ⟨G, dx, dy, b, sg, h1, h2, h3, h4⟩ := h
  obtain ⟨ds, es, p, q, rfl, rfl, _⟩ := eqIns_ins h3
  rcases h1 with h1 | ⟨_, _, _, _, h1, _⟩
  rotate_left
  · cases h1
  rcases h2 with h2 | ⟨_, _, _, _, h2, _⟩
  rotate_left
  · cases h2
  obtain ⟨a, _, _, rfl, _⟩ := rep_ins h1
  obtain ⟨b', _, _, rfl, _⟩ := rep_ins h2
  cases rx
  cases ry
  refine wpAny_mono (rc_own Q pass rfl room gd I sg h1 h2 h3) (fun v s' hv => ?_) fun _ _ e => e
  obtain ⟨rfl, G', H', I', g⟩ := hv
  exact ⟨.bl b, H', I', rfl, h4 G' H' g⟩
def neIns (cl nf : Nat) : D → D → Option Bool := fun a b => (eqIns cl nf a b).map (!·)
theorem ev_neW (Q : EqCls X c cl nf n) (pass : Passes (L2.CX X.prog X.w) X E) (room : Room (n + 1) X.A) (gd : X.A.guards = some []) : OpR X (compareOp .NotEq) (rCm (tb X c) (neIns cl nf)) := by
  intro pins s σ H x y v u Q' I rx ry h
  obtain ⟨G, dx, dy, b, sg, h1, h2, h3, h4⟩ := h
  unfold neIns at h3
  cases k : eqIns cl nf dx dy with
  | none => rw [k] at h3; cases h3
  | some r =>
    rw [k] at h3; cases h3
    obtain ⟨ds, es, p, q, rfl, rfl, _⟩ := eqIns_ins k
    rcases h1 with h1 | ⟨_, _, _, _, h1, _⟩
    rotate_left
    · cases h1
    rcases h2 with h2 | ⟨_, _, _, _, h2, _⟩
    rotate_left
    · cases h2
    obtain ⟨a, _, _, rfl, _⟩ := rep_ins h1
    obtain ⟨b', _, _, rfl, _⟩ := rep_ins h2
    cases rx
    cases ry
    refine wpAny_mono (rcn_own Q pass rfl room gd I sg h1 h2 k) (fun v s' hv => ?_) fun _ _ e => e
    obtain ⟨rfl, G', H', I', g⟩ := hv
    exact ⟨.bl (!r), H', I', rfl, h4 G' H' g⟩
/-- one object is equal to itself -/
theorem eqIns_same (nd : ((c.ct cl).2).Nodup) {pins : List (Addr × Obj)} {σ : L2.St} {H G : Hp} {s : Shared} (I : Inv X pins σ H s) (sg : Same G H) {d1 d2 : D} {a : Addr} {r : Bool} (h1 : Rep (tb X c) G d1 (.ref a)) (h2 : Rep (tb X c) G d2 (.ref a)) (he : eqIns cl nf d1 d2 = some r) : r = true := by
  obtain ⟨ds, es, p, q, rfl, rfl, k1, k2, s1, s2, rfl⟩ := eqIns_ins he
  obtain ⟨a1, dx, fs, e, g1, en, r1⟩ := rep_ins h1
  cases e
  obtain ⟨a2, dx2, fs2, e, g2, _, r2⟩ := rep_ins h2
  cases e
  rw [g1] at g2
  have ef : fs = fs2 := by injection g2 with z; injection z
  subst ef
  have m1 := Reps.dp (Reps.mono sg r1) k1
  have m2 := Reps.dp (Reps.mono sg r2) k2
  obtain ⟨us, hv⟩ : ∃ us, Vals (fs.map (·.2)) us := by
    obtain ⟨mA, J, hv, _⟩ := ins_get I.hok (sg _ _ g1)
    refine vals_of fun v hm => ?_
    obtain ⟨⟨k, v'⟩, hkv, rfl⟩ := List.mem_map.mp hm
    have hl := lookup_mem (by rw [en]; exact nd) hkv
    have q := hv k
    rw [hl] at q
    cases z : mA k with
    | none => rw [z] at q; exact q.elim
    | some u => rw [z] at q; exact ⟨u, q⟩
  obtain ⟨as, t1⟩ := Dp.readsAll I p _ us m1 hv
  obtain ⟨bs, t2⟩ := Dp.readsAll I q _ us m2 hv
  have cl1 : PyData.canLayAll0 p = true := by simpa [PyData.canLay0] using SeqAt.canLay_of_shaped s1
  have e := SeqAt.ReadsAll.unique p q us as bs cl1 t1 t2
  subst e
  exact SeqAt.eqv_refl _ (SeqAt.canLay_of_shaped s1)

/-! x in l -/
def boolsOf (f : D → D → Option Bool) (x : D) : List D → Option (List Bool)
  | [] => some []
  | d :: ds => match f d x, boolsOf f x ds with
    | some b, some bs => some (b :: bs)
    | _, _ => none
theorem boolsOf_at {f : D → D → Option Bool} {x : D} : ∀ {ds : List D} {bs : List Bool}, boolsOf f x ds = some bs → bs.length = ds.length ∧ ∀ (i : Nat) (h : i < bs.length), ∃ d, ds[i]? = some d ∧ f d x = some bs[i]
  | [], bs, h => by cases h; exact ⟨rfl, fun i h => absurd h (Nat.not_lt_zero i)⟩
  | d :: ds, bs, h => by
    unfold boolsOf at h
    cases k : f d x with
    | none => simp only [k] at h; cases h
    | some b =>
      cases k2 : boolsOf f x ds with
      | none => simp only [k, k2] at h; cases h
      | some cs =>
        simp only [k, k2] at h
        cases h
        obtain ⟨h1, h2⟩ := boolsOf_at k2
        refine ⟨by simp [h1], fun i hi => ?_⟩
        cases i with
        | zero => exact ⟨d, rfl, k⟩
        | succ i =>
          obtain ⟨e, h3, h4⟩ := h2 i (by simpa using hi)
          exact ⟨e, by simpa using h3, by simpa using h4⟩
def inIns (cl nf : Nat) (neg : Bool) : D → D → Option Bool := fun a b => match b with
  | .lst ds => (boolsOf (eqIns cl nf) a ds).map fun bs => xor neg (bs.any id)
  | _ => none
theorem eqIns_left {a b : D} {r : Bool} (h : eqIns cl nf a b = some r) : (∃ ds, a = .ins cl ds) ∧ ∃ es, b = .ins cl es := by
  obtain ⟨ds, es, _, _, h1, h2, _⟩ := eqIns_ins h
  exact ⟨⟨ds, h1⟩, es, h2⟩
theorem eqBool_ref {P : Program} {w : World} {A : Around} {E : Value → Shared → Prop} {s : Shared} {l b : Addr} {Q : Bool → Shared → Prop} (hne : l ≠ b) (h : wpAny (model P w) A (richCompare .Eq (.ref l) (.ref b)) (fun v s' => ∃ r, v = .bool r ∧ Q r s') E s) : wpAny (model P w) A (eqBool (.ref l) (.ref b)) Q E s := GQ.eqBool_refG hne h
theorem in_own (neg : Bool) (Q : EqCls X c cl nf n) (nd : ((c.ct cl).2).Nodup) (pass : Passes (L2.CX X.prog X.w) X E) (room : Room (n + 1) X.A) (gd : X.A.guards = some []) : OpR X (compareOp (if neg = true then .NotIn else .In)) (rCm (tb X c) (inIns cl nf neg)) := by
  intro pins s σ H x y v u Q' I rx ry h
  obtain ⟨G, dx, dy, r, sg, h1, h2, h3, h4⟩ := h
  cases dy with
  | lst ds =>
    simp only [inIns] at h3
    cases k : boolsOf (eqIns cl nf) dx ds with
    | none => rw [k] at h3; cases h3
    | some bs =>
      rw [k] at h3
      cases h3
      obtain ⟨hlen, hat⟩ := boolsOf_at k
      obtain ⟨l, vs, rfl, a1, a2⟩ := h2.lst sg
      cases ry
      cases ds with
      | nil =>
        have : bs = [] := List.length_eq_zero_iff.mp (by simpa using hlen)
        subst this
        refine in_I (bs := []) (I := fun i s' => s' = s) neg (fun i s' hs => ?_) (fun i s' hs => ?_) rfl
        · subst hs
          obtain ⟨its, rv, hl, hz⟩ := I.list (SqL.of a1)
          obtain ⟨⟨cls, dd, data, sl⟩, ho, hc, e, hd⟩ := hl.isList
          simp only at hc hd
          subst hc hd
          have hv : vs = [] := by simpa [Reps] using a2
          subst hv
          cases rv
          exact ⟨_, e, dd, sl, ho, rfl, fun h => absurd h (Nat.not_lt_zero _)⟩
        · subst hs
          exact ⟨.bl _, H, I, rfl, h4 G H (Grow.refl sg)⟩
      | cons d0 ds =>
        -- the thing itself is an instance
        have hpos : 0 < bs.length := by rw [hlen]; exact Nat.zero_lt_succ _
        obtain ⟨dz, hz1, hz2⟩ := hat 0 hpos
        obtain ⟨_, es, hex⟩ := eqIns_left hz2
        subst hex
        rcases h1 with h1 | ⟨_, _, _, _, h1, _⟩
        rotate_left
        · cases h1
        obtain ⟨b, _, _, rfl, _⟩ := rep_ins h1
        cases rx
        refine in_I (bs := bs) (I := fun i s' => ∃ G' H', Inv X pins σ H' s' ∧ Grow G H G' H') neg (fun i s' hs => ?_) (fun i s' hs => ?_) ⟨G, H, I, Grow.refl sg⟩
        · obtain ⟨G', H', I', g⟩ := hs
          obtain ⟨its, rv, hl, hz⟩ := I'.list (SqL.of (g.h _ _ a1))
          obtain ⟨⟨cls, dd, data, sl⟩, ho, hc, e, hd⟩ := hl.isList
          simp only at hc hd
          subst hc hd
          have hsz : its.toArray.size = bs.length := by
            rw [List.size_toArray, ← rv.length, Reps.length a2, hlen]
          refine ⟨_, e, dd, sl, ho, hsz, fun hi hi2 => ?_⟩
          obtain ⟨d, q1, q2⟩ := hat i hi2
          obtain ⟨w, w1, w2⟩ := Reps.at' a2 q1
          obtain ⟨u', hu', ru⟩ := rv.get w1
          obtain ⟨⟨fs, hfs⟩, _⟩ := eqIns_left q2
          subst hfs
          obtain ⟨a, _, _, rfl, _⟩ := rep_ins w2
          have ru : u' = Value.ref a := ru
          subst ru
          have hit : its.toArray[i] = Value.ref a := by
            have := (List.getElem?_eq_some_iff.mp hu').2
            simpa using this
          rw [hit]
          by_cases hab : a = b
          · subst hab
            have hr := eqIns_same nd I' g.gh (Rep.mono g.g w2) (Rep.mono g.g h1) q2
            exact SeqAt.EqAt.same (A := X.A.in1) (s := s') (.ref a) X.prog X.w X.xe _ ⟨hr.symm, G', H', I', g⟩
          · refine eqBool_ref hab (wpAny_mono (rc_own (A := X.A.in1) Q pass rfl room.in1 gd I' g.gh (Rep.mono g.g w2) (Rep.mono g.g h1) q2) (fun v s2 hv => ?_) fun _ _ e => e)
            obtain ⟨rfl, G2, H2, I2, g2⟩ := hv
            exact ⟨_, rfl, rfl, G2, H2, I2, g.trans g2⟩
        · obtain ⟨G', H', I', g⟩ := hs
          exact ⟨.bl _, H', I', rfl, h4 G' H' g⟩
  | _ => cases h3
end
end Ev
namespace Ev
open PySem PySem.Spec L2

/-! ### what is never come to -/
theorem ss_never {X : Cx} {c : Tc} {E : XK} {st : Stmt} : SS X c E st (fun _ => none) := ⟨⟨fun pins s σ H D I q => by
  obtain ⟨B, G, ios, env, S, q⟩ := q
  exact q.elim⟩⟩

/-! ### an instance that is being made -/
def slfAt (env : List Ent) (i : Nat) : Option (Nat × List Str × List D) := match env[i]? with
  | some (.slf c ns ds) => some (c, ns, ds)
  | _ => none
section
variable {T : Tb} {B G G' H H' : Hp} {ios : Fx} {env env' : List Ent} {σ : L2.St}
theorem Sep.slfAt (S : Sep T B G H ios env σ) {i cl : Nat} {ns : List Str} {ds : List D} (h : Ev.slfAt env i = some (cl, ns, ds)) : env[i]? = some (.slf cl ns ds) ∧ ∃ a dx fs, σ[i]? = some (some (.ref a)) ∧ H a = some (.ins (T.ct cl).1 dx fs) ∧ fs.map (·.1) = ns ∧ Reps T G ds (fs.map (·.2)) ∧ G a = none ∧ B a = none ∧ OwnAt env σ i a := by
  unfold Ev.slfAt at h
  cases z : env[i]? with
  | none => rw [z] at h; cases h
  | some e =>
    rw [z] at h
    have q := S.ent i e z
    cases e with
    | slf c' ns' ds' =>
      cases h
      obtain ⟨a, dx, fs, h1, h2, h3, h4, h5, h6, _⟩ := q
      exact ⟨rfl, a, dx, fs, h1, h2, h3, h4, h5, h6, ⟨_, z, rfl⟩, h1⟩
    | _ => cases h
theorem Sep.writeS (S : Sep T B G H ios env σ) {i cl : Nat} {ns ns' : List Str} {ds ds' : List D} (h : Ev.slfAt env i = some (cl, ns, ds)) {a dx : Addr} (ha : σ[i]? = some (some (.ref a))) {fs' : List (Str × V)} (hn : fs'.map (·.1) = ns') (r : Reps T G ds' (fs'.map (·.2))) :
    Sep T B G (upd H a (.ins (T.ct cl).1 dx fs')) ios (env.set i (.slf cl ns' ds')) σ := by
  obtain ⟨hz, a', dx', fs, h1, h2, h3, h4, h5, h6, h7⟩ := S.slfAt h
  rw [ha] at h1; cases h1
  have hi := (List.getElem?_eq_some_iff.mp hz).1
  have sm : ∀ {Z : Hp}, Same Z H → Z a = none → Same Z (upd H a (.ins (T.ct cl).1 dx fs')) := fun {Z} s z b u e => by rw [upd_ne (ne_of_none e z)]; exact s b u e
  have hne : ∀ j b, j ≠ i → OwnAt env σ j b → b ≠ a := fun j b n o e => by
    subst e
    exact S.apart j i _ n o h7
  have own2 : ∀ j b, OwnAt (env.set i (.slf cl ns' ds')) σ j b → OwnAt env σ j b := fun j b o => by
    obtain ⟨⟨e, q1, q2⟩, q3⟩ := o
    by_cases w : j = i
    · subst w
      rw [ha] at q3; cases q3
      exact h7
    · rw [List.getElem?_set_ne (Ne.symm w)] at q1
      exact ⟨⟨e, q1, q2⟩, q3⟩
  refine ⟨by rw [List.length_set]; exact S.len, sm S.gh h5, sm S.bh h6, fun j e q => ?_, fun j l b n o1 o2 => S.apart j l b n (own2 j b o1) (own2 l b o2), S.hd⟩
  by_cases w : j = i
  · subst w
    rw [List.getElem?_set_self hi] at q; cases q
    obtain ⟨b, dx2, fs2, c1, _, _, _, _, _, c7⟩ := S.ent j _ hz
    rw [ha] at c1; cases c1
    exact ⟨a, dx, fs', ha, upd_same, hn, r, h5, h6, c7⟩
  · rw [List.getElem?_set_ne (Ne.symm w)] at q
    have c := S.ent j e q
    have ne : ∀ b, e.mine = true → σ[j]? = some (some (.ref b)) → b ≠ a := fun b m z => hne j b w ⟨⟨e, q, m⟩, z⟩
    cases e with
    | no => trivial
    | sh d => exact c
    | own d =>
      obtain ⟨b, c1, c2⟩ := c
      refine ⟨b, c1, ?_⟩
      cases d with
      | lst ds => obtain ⟨vs', k1, k2⟩ := c2; exact ⟨vs', by rw [upd_ne (ne b rfl c1)]; exact k1, k2⟩
      | _ => exact c2.elim
    | io d =>
      obtain ⟨b, c1, c2, c3⟩ := c
      refine ⟨b, c1, ?_, c3⟩
      cases d with
      | lst ds => obtain ⟨vs', k1, k2⟩ := c2; exact ⟨vs', by rw [upd_ne (ne b rfl c1)]; exact k1, k2⟩
      | _ => exact c2.elim
    | slf cl ns ds =>
      obtain ⟨b, dx, fs, c1, k1, k2⟩ := c
      exact ⟨b, dx, fs, c1, by rw [upd_ne (ne b rfl c1)]; exact k1, k2⟩
end
/-- self.f = e, f new -/
def setFldF (i : Nat) (fl : Str) (fe : F) : FS := fun env => bES (fe env) fun r e1 => match store e1 r with
  | none => none
  | some (d, e2) => match slfAt e2 i with
    | some (cl, ns, ds) => if ns.contains fl = false ∧ ns.length < 900 then some (.nx (e2.set i (.slf cl (ns ++ [fl]) (ds ++ [d])))) else none
    | none => none
theorem putF_new {f : Str} {v : V} : ∀ {fs : List (Str × V)}, (fs.map (·.1)).contains f = false → putF f v fs = fs ++ [(f, v)]
  | [], _ => rfl
  | (g, x) :: r, h => by
    rw [List.map_cons, List.contains_cons, Bool.or_eq_false_iff] at h
    have n : g ≠ f := fun e => by
      subst e
      simp at h
    unfold putF
    rw [if_neg n, putF_new h.2]; rfl
section
variable {X : Cx} {c : Tc} {E : XK} {pos pos' px : Pos} {e : Expr} {p : Bool} {fe : F} {x fl : Str} {i : Nat}
theorem ss_setFld (he : SE X c E p e fe) (hv : PE X (.Name x px) (tVar i)) (hC : ∀ k, Cls X.K (c.ct k).1) (hN : ∀ k, NoAttr X.K (c.ct k).1 fl) (hs : swapsWith e (some (.Attribute (.Name x px) fl pos')) pos.line X.env = pure false := by rfl) : SS X c E (.Assign [.Attribute (.Name x px) fl pos'] e pos) (setFldF i fl fe) := by
  refine ⟨PS.weak (ps_fld hv he.run hs) fun Dn σ H hq => ?_⟩
  obtain ⟨B, G, ios, env, S, hq⟩ := hq
  refine ⟨B, G, ios, env, S, PostS.ofO hq fun r e1 G1 H1 v S1 sg1 V1 hq1 => ?_⟩
  cases k : store e1 r with
  | none => simp only [k] at hq1; exact hq1.elim
  | some u =>
    obtain ⟨d, e2⟩ := u
    simp only [k] at hq1
    obtain ⟨G2, S2, sg2, r2⟩ := S1.store V1 (by rw [store_norm]; exact k)
    cases k2 : slfAt e2 i with
    | none => simp only [k2] at hq1; exact hq1.elim
    | some u =>
      obtain ⟨cl, ns, ds⟩ := u
      simp only [k2] at hq1
      split at hq1
      · rename_i hn
        obtain ⟨_, a, dx, fs, h1, h2, h3, h4, h5, h6, h7⟩ := S2.slfAt k2
        refine ⟨.ref a, h1, a, (c.ct cl).1, dx, fs, rfl, h2, hC cl, hN cl, ?_, ?_⟩
        · have : (fs.map (·.1)).length = ns.length := by rw [h3]
          rw [List.length_map] at this; omega
        · rw [putF_new (by rw [h3]; exact hn.1)]
          refine hq1 G2 _ σ (S2.writeS k2 h1 (by rw [List.map_append, h3]; rfl) ?_) sg2
          rw [List.map_append]
          exact h4.app (show Reps (tb X c) G2 [d] [v] from ⟨v, [], rfl, r2, rfl⟩)
      · exact hq1.elim
end
/-! ### __init__ -/
/-- the fields that come of the arguments -/
abbrev Fm := List D → Option (List D)
def spM (T : Tb) (cl : Nat) (f : Fm) : Sp := fun vs H Q _ => ∃ G ds x dx us, vs = .ref x :: us ∧ H x = some (.ins (T.ct cl).1 dx []) ∧ G x = none ∧ Same G H ∧ Reps T G ds us ∧ match f ds with
  | some fl => ∀ G' H' fs', GrowI x G H G' H' → (∃ dx', H' x = some (.ins (T.ct cl).1 dx' fs')) → fs'.map (·.1) = (T.ct cl).2 → Reps T G' fl (fs'.map (·.2)) → Q .non H'
  | none => False
def iniM (cl n : Nat) (ds : List D) : List Ent := .slf cl [] [] :: (ds.map .sh ++ List.replicate (n - (ds.length + 1)) .no)
def runM (cl : Nat) (nms : List Str) (np n : Nat) (g : FS) : Fm := fun ds => if ds.length + 1 = np then match g (iniM cl n ds) with
    | some (.nx e) => match slfAt e 0 with
      | some (k, ns, fl) => if k = cl ∧ ns = nms then some fl else none
      | none => none
    | _ => none
  else none
theorem spM_imp {T : Tb} {cl : Nat} {f f' : Fm} (h : ∀ ds r, f' ds = some r → f ds = some r) {vs : List V} {H : Hp} {Q : VK} {E : XK} (s : spM T cl f' vs H Q E) : spM T cl f vs H Q E := by
  obtain ⟨G, ds, x, dx, us, h1, h2, h3, h4, h5, k⟩ := s
  refine ⟨G, ds, x, dx, us, h1, h2, h3, h4, h5, ?_⟩
  cases q : f' ds with
  | none => rw [q] at k; exact k.elim
  | some r => rw [q] at k; rw [h ds r q]; exact k
section
variable {T : Tb} {G H : Hp} {N : List Str} {ds : List D} {us : List V} {a dx : Addr} {cl : Nat}
theorem iniM_get {n j : Nat} {e : Ent} (h : (iniM cl n ds)[j]? = some e) : (j = 0 ∧ e = .slf cl [] []) ∨ (∃ i d, j = i + 1 ∧ ds[i]? = some d ∧ e = .sh d) ∨ (ds.length < j ∧ e = .no) := by
  unfold iniM at h
  cases j with
  | zero => left; simp at h; exact ⟨rfl, h.symm⟩
  | succ i =>
    right
    rw [List.getElem?_cons_succ] at h
    by_cases w : i < ds.length
    · rw [List.getElem?_append_left (by simpa using w)] at h
      obtain ⟨d, h1, h2⟩ := map_get h
      exact .inl ⟨i, d, rfl, h1, h2⟩
    · rw [List.getElem?_append_right (by simp; omega)] at h
      have := List.mem_of_getElem? h
      rw [List.mem_replicate] at this
      exact .inr ⟨by omega, this.2⟩
theorem sep_iniM (ha : H a = some (.ins (T.ct cl).1 dx [])) (hg : G a = none) (sg : Same G H) (r : Reps T G ds us) (hl : ds.length + 1 ≤ N.length) : Sep T (cut [a] H) G H (fxI a G H) (iniM cl N.length ds) (L2.start N (.ref a :: us)) := by
  have hv := Reps.length r
  have st : ∀ j, j ≤ us.length → (L2.start N (.ref a :: us))[j]? = (V.ref a :: us)[j]?.map some := fun j hj => by
    unfold L2.start
    rw [List.getElem?_append_left (by simp; omega), List.getElem?_map]
  have cutn : ∀ b o, cut [a] H b = some o → H b = some o ∧ b ≠ a := fun b o e => by
    unfold cut at e
    by_cases q : b ∈ [a]
    · rw [if_pos q] at e; cases e
    · rw [if_neg q] at e; exact ⟨e, by simpa using q⟩
  have only0 : ∀ j b, OwnAt (iniM cl N.length ds) (L2.start N (.ref a :: us)) j b → j = 0 := fun j b o => by
    obtain ⟨⟨e, h1, h2⟩, _⟩ := o
    rcases iniM_get h1 with ⟨h, _⟩ | ⟨i, d, _, _, h⟩ | ⟨_, h⟩
    · exact h
    · subst h; cases h2
    · subst h; cases h2
  refine ⟨?_, sg, fun b o e => (cutn b o e).1, fun j e h => ?_, fun i j b n o1 o2 => n ((only0 i b o1).trans (only0 j b o2).symm), fun b hb => ⟨hb.2.2, ?_⟩⟩
  · unfold iniM L2.start
    simp only [List.length_append, List.length_map, List.length_replicate, List.length_cons]
    omega
  · rcases iniM_get h with ⟨rfl, rfl⟩ | ⟨i, d, rfl, h1, rfl⟩ | ⟨_, rfl⟩
    · exact ⟨a, dx, [], by rw [st 0 (Nat.zero_le _)]; rfl, ha, rfl, rfl, hg, by unfold cut; rw [if_pos (by simp)], by simp [fxI]⟩
    · obtain ⟨v, h2, h3⟩ := Reps.at' r h1
      have hi := (List.getElem?_eq_some_iff.mp h2).1
      exact ⟨v, by rw [st (i + 1) hi, List.getElem?_cons_succ, h2]; rfl, h3⟩
    · trivial
  · obtain ⟨h1, h2, _⟩ := hb
    cases q : H b with
    | none => exact absurd q h2
    | some o => exact ⟨o, by unfold cut; rw [if_neg (by simpa using h1), q]⟩
end
section
variable {P : Program} {w : World} {K : PySem.W.Frag} {mg : Str → Option Value} {base : Heap} {c : Tc} {cl : Nat} {nms : List Str}
theorem bodyM_core {X : Cx} {E : XK} {N : List Str} {np : Nat} {body : List Stmt} {g : FS} {vs : List V} {H : Hp} {Q : VK} (hn : (c.ct cl).2 = nms) (hp : np ≤ N.length) (hb : SSs X c E body g) (hsp : spM (tb X c) cl (runM cl nms np N.length g) vs H Q E) :
    ∃ t, PSs X body t ∧ t { nx := fun _ H' => Q .non H', rt := Q } (L2.start N vs) H := by
  refine ⟨_, hb.run, ?_⟩
  obtain ⟨G, ds, a, dx, us, rfl, ha, hga, sg, rp, k⟩ := hsp
  unfold runM at k
  by_cases hl : ds.length + 1 = np
  · rw [if_pos hl] at k
    have S := sep_iniM (N := N) ha hga sg rp (by omega)
    refine ⟨cut [a] H, G, _, _, S, ?_⟩
    have bcut : ∀ b o, b ≠ a → H b = some o → cut [a] H b = some o := fun b o n e => by unfold cut; rw [if_neg (by simpa using n)]; exact e
    cases q : g (iniM cl N.length ds) with
    | none => rw [q] at k; exact k.elim
    | some o =>
      rw [q] at k
      cases o with
      | bk e => exact k.elim
      | ct e => exact k.elim
      | ex c => exact k.elim
      | rt r e => exact k.elim
      | nx e =>
        intro G' H' σ' S' sg'
        cases z : slfAt e 0 with
        | none => simp only [z] at k
        | some u =>
          obtain ⟨k', ns, fl⟩ := u
          simp only [z] at k
          split at k
          · rename_i r hr
            split at hr
            · rename_i hk
              cases hr
              obtain ⟨rfl, rfl⟩ := hk
              obtain ⟨hz, a', dx', fs, h1, h2, h3, h4, h5, h6, h7⟩ := S'.slfAt z
              have e1 : a' = a := by
                obtain ⟨b, _, _, c1, _, _, _, _, _, c7⟩ := S'.ent 0 _ hz
                rw [h1] at c1; cases c1
                simpa [fxI] using c7
              subst e1
              refine k G' H' fs ⟨sg', S'.gh, fun b o n e => S'.bh b o (bcut b o n e), fun b q1 q2 => ?_⟩ ⟨dx', h2⟩ (by rw [h3]; exact hn.symm) h4
              by_cases n : b = a'
              · subst n; exact h5
              · exact (S'.hd b ⟨n, q1, q2⟩).1
            · cases hr
          · exact k.elim
  · rw [if_neg hl] at k; exact k.elim
theorem fn_init {x qual : Str} {pa : Arguments} {bd : List Stmt} {sc : Scope} {dvs : List V} {kws : List (Str × V)} {f : Addr} {fd : FuncData} {N ps : List Str} {k : Nat} {g : FS} {f' : Fm} (F : FunD K x qual pa bd sc dvs kws f fd) (S : FnScope N ps sc) (hN : ps.length ≤ N.length) (hn : (c.ct cl).2 = nms)
    (hb : ∀ (cdv : Value) (A : Around) (outer : List Env) (s : Shared) (H : Hp) (E : XK), Cxt (cxOf (L2.CX P w) P w K mg base N qual sc f cdv A outer s H E) E k →
      SSs (cxOf (L2.CX P w) P w K mg base N qual sc f cdv A outer s H E) c E bd g)
    (hm : ∀ ds r, f' ds = some r → runM cl nms ps.length N.length g ds = some r) : FnG P w K mg base (L2.CX P w) (k + 1) f fd ps (spM ⟨K, c.ct, c.xc⟩ cl f') := by
  obtain ⟨oc, od, dV, kV, doc, pm, an, cdv, ct, osl, rfl, lk, hcd, _, _⟩ := F.ex
  refine fnG_of lk hcd S (fun vs H Q E h => ?_) fun A gd outer s H vs Q E hr h => ?_
  · obtain ⟨G, ds, x, dx, us, rfl, _, _, _, rp, q⟩ := spM_imp hm h
    unfold runM at q
    by_cases hl : ds.length + 1 = ps.length
    · rw [List.length_cons, Reps.length rp, hl]
    · rw [if_neg hl] at q; exact q.elim
  · refine bodyM_core hn hN (hb cdv A outer s H E ⟨rfl, S.nd, passes_call (takes_of rfl rfl rfl rfl) (fun _ _ _ _ h => h), hr, gd⟩) ?_
    exact spM_imp hm h
end
/-- a class by name -/
structure MkD (P : Program) (w : World) (K : PySem.W.Frag) (mg : Str → Option Value) (base : Heap) (k : Nat) (x : Str) (C : Addr) (sp : Sp) : Prop where
  ex : ∃ f fd ps, FnG P w K mg base (L2.CX P w) k f fd ps sp ∧ Mk K C f ∧ mg x = some (.ref C) ∧ Binds K fd ps []
def mkF (cl : Nat) (f : Fm) (fs : FA) : F := fun env => bA (fs env) fun rs e1 => match stores e1 rs with
  | none => none
  | some (ds, e2) => (f ds).map fun fl => .ok (.sh (.ins cl fl)) e2
section
variable {X : Cx} {c : Tc} {E : XK} {pos px : Pos} {e : Expr} {es : List Expr} {p : Bool} {fs : FA} {x : Str} {C : Addr} {cl k : Nat} {f : Fm}
theorem se_make (M : MkD X.prog X.w X.K X.mg X.base k x C (spM (tb X c) cl f)) (hc : (c.ct cl).1 = C) (hr : Room (k + 1) X.A) (gd : X.A.guards = some []) (hx : Passes (L2.CX X.prog X.w) X E) (ha : SA X c E p (e :: es) fs) (hg : Gl X x := by rfl) (hdb : (x == ("__debug__" : Str)) = false := by decide)
    (he : starEach (e :: es) X.env = (false, eval e X.env) :: starEach es X.env := by rfl) (hpl : (backTo pos (starEach es X.env)).any (·.1) = false := by rfl) : SE X c E p (.Call (.Name x px) (e :: es) [] pos) (mkF cl f fs) := by
  obtain ⟨f', fd, ps, h1, h2, h3, h4⟩ := M.ex
  subst hc
  refine ⟨PE.weak (pe_makeG h2 h1 hr gd hg h3 h4 hx ha.run hdb he hpl) fun σ H Q h => ?_⟩
  obtain ⟨B, G, ios, env, S, hq⟩ := h
  refine ⟨B, G, ios, env, S, PostA.bind (p2 := true) (by rw [Bool.and_true]; exact hq) fun rs e1 G1 H1 vs kk S1 sg1 V1 hq1 _ => ?_⟩
  cases k2 : stores e1 rs with
  | none => simp only [k2] at hq1; exact hq1.elim
  | some u =>
    obtain ⟨ds, e2⟩ := u
    simp only [k2] at hq1
    obtain ⟨G2, S2, sg2, r2⟩ := S1.stores V1 k2
    intro y dx hy hdx hne
    have gy : G2 y = none := none_of_same S2.gh hy
    have gdx : G2 dx = none := none_of_same S2.gh hdx
    have old : ∀ b o, H1 b = some o → upd (upd H1 dx (.own y)) y (.ins (c.ct cl).1 dx []) b = some o := fun b o e => by
      rw [upd_ne (ne_of_none e hy), upd_ne (ne_of_none e hdx)]; exact e
    refine ⟨G2, ds, y, dx, vs, rfl, upd_same, gy, fun b o e => old b o (S2.gh b o e), r2, ?_⟩
    cases k4 : f ds with
    | none => rw [k4] at hq1; exact hq1.elim
    | some fl =>
      rw [k4] at hq1
      intro G' H' fs' g hx' hn rf
      obtain ⟨dx', hx'⟩ := hx'
      refine ⟨rfl, ?_⟩
      have gy' : G' y = none := g.nw y (by rw [upd_same]; simp) gy
      have gr : Grow G2 H1 (upd G' y (.ins (c.ct cl).1 dx' fs')) H' := by
        refine ⟨g.g.trans (same_upd gy'), upd_same_of g.gh hx', fun b o e => g.h b o (ne_of_none e hy) (old b o e), fun b hb gb => ?_⟩
        have n : b ≠ y := fun z => by rw [z] at hb; exact hb hy
        rw [upd_ne n]
        refine g.nw b (fun z => ?_) gb
        cases q : H1 b with
        | none => exact hb q
        | some o => rw [old b o q] at z; cases z
      have hq2 : PostE (tb X c) E true B G2 H1 ios σ Q (some (.ok (.sh (.ins cl fl)) e2)) := PostE.mono hq1 sg2
      refine PostE.res hq2 S2 gr ?_
      show Rep (tb X c) _ (.ins cl fl) (.ref y)
      simp only [Rep]
      exact ⟨y, dx', fs', rfl, upd_same, hn, Reps.mono (same_upd gy') rf⟩
end
/-! ### self.m(), self being made -/
def meSF (i cl : Nat) (nms : List Str) (f : Fn) : F := fun env => match slfAt env i with
  | some (k, ns, ds) => if k = cl ∧ ns = nms then match f [.ins cl ds] with
      | some (.ok r) => if lstFreeV r = true then some (.ok r env) else none
      | _ => none
    else none
  | none => none
section
variable {X : Cx} {c : Tc} {E : XK} {pos apos px : Pos} {x m : Str} {C : Addr} {cl k i : Nat} {f : Fn} {nms : List Str} {f0 : Addr} {fd : FuncData} {ps : List Str} {pl : Sem Bool}
theorem se_meS (hn : c.ct cl = (C, nms)) (hC : Cls X.K C) (hm : Meth X.K C m f0) (F : FnG X.prog X.w X.K X.mg X.base (L2.CX X.prog X.w) k f0 fd ps (spP (tb X c) f)) (hb : Binds X.K fd ps []) (hr : Room k X.A) (gd : X.A.guards = some []) (hx : Passes (L2.CX X.prog X.w) X E) (hv : PE X (.Name x px) (tVar i)) (hnm : nms.contains m = false)
    (shape : eval (.Call (.Attribute (.Name x px) m apos) [] [] pos) X.env = (do let ov ← eval (.Name x px) X.env; standAt apos.atName; let (f, first) ← holding [ov] (getMethod ov m pl); callWith pos f first (backTo pos (starEach [] X.env)) (backToKw pos (keywordEach [] X.env))) := by rfl) :
    SE X c E true (.Call (.Attribute (.Name x px) m apos) [] [] pos) (meSF i cl nms f) := by
  refine ⟨PE.weak (pe_meth0G (pl := pl) hv hC hm F hr gd hb hx shape) fun σ H Q h => ?_⟩
  obtain ⟨B, G, ios, env, S, hq⟩ := h
  unfold meSF at hq
  cases z : slfAt env i with
  | none => simp only [z] at hq; exact hq.elim
  | some u =>
    obtain ⟨k', ns, ds⟩ := u
    simp only [z] at hq
    split at hq
    · rename_i hk
      obtain ⟨rfl, rfl⟩ := hk
      obtain ⟨hz, a, dx, fs, h1, h2, h3, h4, h5, h6, h7⟩ := S.slfAt z
      have h2' : H a = some (.ins C dx fs) := by
        have h2 : H a = some (.ins (c.ct k').1 dx fs) := h2
        rw [hn] at h2; exact h2
      refine ⟨.ref a, h1, a, dx, fs, rfl, h2', ?_, ?_⟩
      · rw [lookup_at, h3]
        have : List.findIdx? (fun y => m == y) ns = none := by
          rw [List.findIdx?_eq_none_iff]
          intro y hy
          rw [beq_eq_false_iff_ne]
          intro e
          subst e
          have := List.contains_iff_mem.mpr hy
          rw [hnm] at this; cases this
        rw [this]; rfl
      · have hl : ∀ b ∈ [a], G b = none ∧ ∃ o, H b = some o ∧ Loose o := fun b hb => by
          have e : b = a := by simpa using hb
          subst e
          exact ⟨h5, _, h2', .inr ⟨_, _, _, rfl⟩⟩
        refine ⟨lay [a] G H, [.ins k' ds], lay_in S.gh, ⟨_, _, rfl, ?_, rfl⟩, ?_⟩
        · simp only [Rep]
          refine ⟨a, dx, fs, rfl, ?_, ?_, Reps.mono (lay_le S.gh) h4⟩
          · unfold lay
            rw [if_pos (by simp)]; exact h2
          · show fs.map (·.1) = (c.ct k').2
            rw [hn]; exact h3
        · cases k3 : f [.ins k' ds] with
          | none => simp only [k3] at hq; exact hq.elim
          | some u =>
            cases u with
            | ex cc => simp only [k3] at hq; exact hq.elim
            | ok r =>
              simp only [k3] at hq
              split at hq
              · rename_i hf
                intro G' H' v g ro
                obtain ⟨G3, g3, ro3⟩ := unborrow S.gh hl g ro hf
                exact PostE.res hq S g3 ro3
              · exact hq.elim
    · exact hq.elim
end
end Ev
namespace Ev
open PySem PySem.Spec L2
/-! ### repr of tuples, lists -/
def isSeqD : D → Bool
  | .tup _ => true
  | .lst _ => true
  | _ => false
def reprD : List D → Option Val := on1 fun d => match toPy d with
  | some p => if p.showable = true ∧ p.hasDict = false ∧ isSeqD d = true ∧ p.depth < 100 ∧ p.shown.length ≤ 1000000 then some (.sh (.str p.shown)) else none
  | none => none
theorem ev_repr {X : Cx} {c : Tc} {k : Nat} (hr : Room k X.A) (gd : X.A.guards = some []) : CallR X (.builtin "repr") (rCl (tb X c) reprD) := by
  intro pins s σ H vs us Q I rv h
  obtain ⟨G, d, v, r, rfl, sg, h1, h3, h4⟩ := rcl1 h
  cases k1 : toPy d with
  | none => simp only [k1] at h3; cases h3
  | some p =>
    simp only [k1] at h3
    split at h3
    · rename_i hp
      obtain ⟨p1, p2, p3, p4, p5⟩ := hp
      cases h3
      obtain ⟨u, rfl, ru⟩ := vals1 rv
      have h1' := h1.full sg
      have hv : ∃ a, v = .ref a := by
        cases d with
        | tup ds => simp only [Rep] at h1'; obtain ⟨a, _, e, _⟩ := h1'; exact ⟨a, e⟩
        | lst ds => simp only [Rep] at h1'; obtain ⟨a, _, e, _⟩ := h1'; exact ⟨a, e⟩
        | _ => cases p3
      obtain ⟨a, rfl⟩ := hv
      have ru : u = Value.ref a := ru
      subst ru
      obtain ⟨as, rd⟩ := Dp.reads I p _ _ (Rep.dp h1' k1) rfl
      refine repr_of_reads' (h₀ := s.heap) rd p1 (fun z => by rw [p2] at z; cases z) gd (by have := hr.un; have hc : cLine = 9900 := rfl; omega) (fun _ _ q => q) (fun h' u tk hk => ?_) (by rw [sizeLine_eq]; omega)
      exact ⟨.str p.shown, H, I.kept (t' := tk) hk, ⟨u, rfl⟩, h4 G H _ (Grow.refl sg) (by show Rep (tb X c) G (.str p.shown) (.str p.shown); simp [Rep])⟩
    · cases h3
end Ev
/-! sum(lists, []) -/
namespace Ev
open PySem PySem.Spec L2
def lObj (its : List Value) (n : Nat) : Obj := { cls := .type "list", data := .seq its.toArray n }
theorem args_sumL (a b : Value) : argsOk "sum" ⟨[a, b], []⟩ := by unfold argsOk; kernel_rfl
section
variable {P : Program} {w : World} {A : Around} {R : PySem.Result → Shared → Prop} {I S l : Addr} {items : Array Value} {old : Heap} {parts : List (List Value)}
/-- the turns: acc is what stands so far -/
theorem sum_turns (hh : A.in1.handled = none) (hI : old.objs.size ≤ I) (hS0 : old.objs.size ≤ S) (hIS : I ≠ S) (hl0 : l < old.objs.size) (hp : parts.length = items.size)
    (hit : ∀ (i : Nat) (h : i < parts.length), ∃ a n, items[i]? = some (.ref a) ∧ old.get? a = some (lObj parts[i] n)) :
    ∀ (k i : Nat) (s : Shared) (tot : Addr) (acc : List Value) (n c : Nat), parts.length - i = k → i ≤ parts.length → acc.length + ((parts.drop i).map List.length).sum ≤ 1000000 → (s.heap.IsListIter I l i ∧ s.heap.IsList l items) → (∀ b o, old.get? b = some o → s.heap.get? b = some o) →
      s.heap.get? S = some { cls := .type "list", dict := none, data := .seq #[.ref tot] c, slots := #[] } → s.heap.get? tot = some (lObj acc n) → tot ≠ S → tot ≠ I →
      (∀ h' tk tot' n', (0 < k → old.objs.size ≤ tot') → (k = 0 → tot' = tot) → (∀ b o, old.get? b = some o → h'.get? b = some o) → h'.get? tot' = some (lObj (acc ++ (parts.drop i).flatten) n') → R (.ok (.ret (.ref tot'))) { s with heap := h', toks := tk }) →
      codeAny (model P w) A (.builtin "sum.loop" ⟨[.ref I, .ref S, rawInt 2, rawInt 0], []⟩) R s := by
  have W := Walks.list (prog := P) (w := w) (A := A.in1) hh I l (Nat.ne_of_lt (Nat.lt_of_lt_of_le hl0 hI)) items
  intro k
  induction k with
  | zero =>
    intro i s tot acc n c hk hi hz hst hold hS hT n1 n2 hR
    have e : i = parts.length := by omega
    subst e
    refine codeAny_builtin F.entry_sum_loop ?_
    rw [Around.under_plainId F.plain_sum_loop _]
    show wpAny _ A.in1 (seqItems? (.ref S) >>= _) _ _ s
    refine wpAny_bind (wpAny_seqItems hS rfl ?_)
    show wpAny _ A.in1 (tryCatch (pyNext (.ref I)) _ >>= _) _ _ s
    rw [hp] at hst
    refine wpAny_bind (wpAny_tryCatch (W.done s _ _ hst fun h' tk hk' => ?_))
    have notI : ∀ b o, old.get? b = some o → b ∉ [I] := fun b o e => by
      have := Heap.lt_size e
      simp only [List.mem_singleton]
      exact Nat.ne_of_lt (Nat.lt_of_lt_of_le this hI)
    exact wpAny_pure (hR h' tk tot n (fun z => absurd z (Nat.lt_irrefl 0)) (fun _ => rfl) (fun b o e => hk' b o (notI b o e) (hold b o e)) (by rw [List.drop_length, List.flatten_nil, List.append_nil]; exact hk' tot _ (by simp [n2]) hT))
  | succ k ih =>
    intro i s tot acc n c hk hi hz hst hold hS hT n1 n2 hR
    have hlt : i < parts.length := by omega
    have notI : ∀ b o, old.get? b = some o → b ∉ [I] := fun b o e => by
      have := Heap.lt_size e
      simp only [List.mem_singleton]
      exact Nat.ne_of_lt (Nat.lt_of_lt_of_le this hI)
    have notS : ∀ b o, old.get? b = some o → b ≠ S := fun b o e => Nat.ne_of_lt (Nat.lt_of_lt_of_le (Heap.lt_size e) hS0)
    refine codeAny_builtin F.entry_sum_loop ?_
    rw [Around.under_plainId F.plain_sum_loop _]
    show wpAny _ A.in1 (seqItems? (.ref S) >>= _) _ _ s
    refine wpAny_bind (wpAny_seqItems hS rfl ?_)
    show wpAny _ A.in1 (tryCatch (pyNext (.ref I)) _ >>= _) _ _ s
    refine wpAny_bind (wpAny_tryCatch (W.item i s _ _ (by omega) hst fun v h' tk hP hst' hk' => ?_))
    obtain ⟨a, na, ha, hao⟩ := hit i hlt
    rw [hP] at ha
    obtain rfl : v = .ref a := Option.some.inj ha
    have hS' := hk' S _ (by simp [Ne.symm hIS]) hS
    have hT' := hk' tot _ (by simp [n2]) hT
    have ha' := hk' a _ (notI a _ hao) (hold a _ hao)
    rw [List.drop_eq_getElem_cons hlt, List.map_cons, List.sum_cons] at hz
    show wpAny _ A.in1 ((holding [Value.ref a] (binaryOp .Add (.ref tot) (.ref a))).attempt >>= _) _ _ _
    refine wpAny_bind (wpAny_attempt (wpAny_holding (PySem.P.add_list hT' ha' ?_ (by rw [List.size_toArray, List.size_toArray, sizeLine_eq]; omega))))
    have ea : acc.toArray ++ parts[i].toArray = (acc ++ parts[i]).toArray := by simp
    rw [ea]
    have hSn : (h'.push (lObj (acc ++ parts[i]) 0)).get? S = _ := Heap.get?_push_of_some _ hS'
    have nT : (h'.push (lObj (acc ++ parts[i]) 0)).get? h'.objs.size = some (lObj (acc ++ parts[i]) 0) := Heap.get?_push_size _ rfl
    have sl : S < h'.objs.size := Heap.lt_size hS'
    have il : I < h'.objs.size := by obtain ⟨_, q, _⟩ := hst'.1; exact Heap.lt_size q
    show wpAny _ A.in1 (updateSeq S (fun _ => #[.ref h'.objs.size]) >>= _) _ _ { s with heap := h'.push (lObj (acc ++ parts[i]) 0), toks := tk }
    refine wpAny_bind (wpAny_updateSeq hSn rfl ?_)
    have hS2 := Heap.get?_update_self (Obj.mapSeq fun _ => #[Value.ref h'.objs.size]) hSn rfl
    refine wpAny_bind (wpAny_letGo (wpAny_bind ?_))
    refine wpAny_updateSeq hS2 rfl (wpAny_pure ⟨plainId_quiet F.plain_sum_loop _, ih (i + 1) _ h'.objs.size (acc ++ parts[i]) 0 _ (by omega) hlt (by rw [List.length_append]; omega) (W.frame _ _ _ hst' fun b hb o e => ?_) (fun b o e => ?_) (Heap.get?_update_self _ hS2 rfl) ?_ (Nat.ne_of_gt sl) (Nat.ne_of_gt il) fun h3 tk3 tot3 n3 g1 g2 g3 g4 => ?_⟩)
    · have hbS : b ≠ S := by
        have : b = I ∨ b = l := by simpa using hb
        rcases this with z | z
        · rw [z]; exact hIS
        · rw [z]; exact Nat.ne_of_lt (Nat.lt_of_lt_of_le hl0 hS0)
      exact (Heap.get?_update_other _ _ (Ne.symm hbS)).trans ((Heap.get?_update_other _ _ (Ne.symm hbS)).trans (Heap.get?_push_of_some _ e))
    · exact (Heap.get?_update_other _ _ (Ne.symm (notS b o e))).trans ((Heap.get?_update_other _ _ (Ne.symm (notS b o e))).trans (Heap.get?_push_of_some _ (hk' b o (notI b o e) (hold b o e))))
    · exact (Heap.get?_update_other _ _ (Nat.ne_of_lt sl)).trans ((Heap.get?_update_other _ _ (Nat.ne_of_lt sl)).trans nT)
    · refine hR h3 tk3 tot3 n3 (fun _ => ?_) (fun z => absurd z (Nat.succ_ne_zero k)) g3 ?_
      · by_cases z : 0 < k
        · exact g1 z
        · rw [g2 (by omega)]
          exact Nat.le_of_lt (Nat.lt_of_le_of_lt hS0 sl)
      · rw [List.drop_eq_getElem_cons hlt, List.flatten_cons, ← List.append_assoc]
        exact g4
end
section
variable {P : Program} {w : World} {A : Around} {E Q : Value → Shared → Prop} {s : Shared} {l p : Addr} {items : Array Value} {parts : List (List Value)} {np : Nat}
theorem call_sumL (hh : A.in1.handled = none) (hl : s.heap.IsList l items) (hpz : s.heap.get? p = some (lObj [] np)) (hp : parts.length = items.size) (hpos : 0 < parts.length)
    (hit : ∀ (i : Nat) (h : i < parts.length), ∃ a n, items[i]? = some (.ref a) ∧ s.heap.get? a = some (lObj parts[i] n)) (hz : (parts.map List.length).sum ≤ 1000000)
    (h : ∀ h' tk tot n, s.heap.objs.size ≤ tot → (∀ b o, s.heap.get? b = some o → h'.get? b = some o) → h'.get? tot = some (lObj parts.flatten n) → Q (.ref tot) { s with heap := h', toks := tk }) :
    wpAny (model P w) A (call (.builtin "sum") [.ref l, .ref p]) Q E s := by
  refine call_function_tree F.kind_sum F.plain_sum F.entry_sum (args_sumL _ _) ?_
  unfold Builtin.«sum»
  simp only [List.length_cons, List.length_nil]
  rw [if_neg (by decide)]
  refine wpAny_bind (wpAny_of_eq (show Builtin.Builtins.bindParams "sum" ["start"] 0 ⟨[.ref p], []⟩ = pure [some (.ref p)] from rfl) ?_)
  have hlt : l < s.heap.objs.size := by obtain ⟨_, e, _⟩ := id hl; exact Heap.lt_size e
  refine wpAny_bind (wpAny_pyIter_list hl ?_)
  refine wpAny_bind (wpAny_pure ?_)
  have tp : Shared.TypeIs { s with heap := s.heap.push { cls := .type "list_iterator", data := .fields #[.ref l, .int 0 0] } } (.ref p) "list" := ⟨_, Heap.get?_push_of_some _ hpz, rfl⟩
  simp only [List.forIn_cons, List.forIn_nil]
  refine wpAny_bind (wpAny_bind (wpAny_bind (wpAny_isInstance (T := "list") (b := false) tp F.sub_list_str ?_)))
  simp only [Bool.false_eq_true, if_false]
  refine wpAny_pure (wpAny_bind (wpAny_bind (wpAny_isInstance (T := "list") (b := false) tp F.sub_list_bytes ?_)))
  simp only [Bool.false_eq_true, if_false]
  refine wpAny_pure (wpAny_bind (wpAny_bind (wpAny_isInstance (T := "list") (b := false) tp F.sub_list_bytearray ?_)))
  simp only [Bool.false_eq_true, if_false]
  refine wpAny_pure (wpAny_pure ?_)
  refine wpAny_bind (wpAny_newObj_type ?_)
  have sz : (s.heap.push { cls := .type "list_iterator", data := .fields #[.ref l, .int 0 0] }).objs.size = s.heap.objs.size + 1 := Heap.size_push ..
  have pl : p < s.heap.objs.size := Heap.lt_size hpz
  show wpAny _ A.in1 (again (.builtin "sum.loop" ⟨[.ref s.heap.objs.size, .ref (s.heap.push { cls := .type "list_iterator", data := .fields #[.ref l, .int 0 0] }).objs.size, rawInt 2, rawInt 0], []⟩)) _ _ _
  rw [sz]
  refine wpAny_pure ⟨plainId_quiet F.plain_sum_loop _, sum_turns (old := s.heap) (items := items) (parts := parts) hh (Nat.le_refl _) (Nat.le_succ _) (Nat.ne_of_lt (Nat.lt_succ_self _)) hlt hp hit parts.length 0 _ p [] np 0 (by omega) (Nat.zero_le _) (by simpa using hz) ⟨?_, ?_⟩ (fun b o e => ?_) ?_ ?_ (Nat.ne_of_lt (Nat.lt_succ_of_lt pl)) (Nat.ne_of_lt pl) fun h' tk tot n g1 _ g3 g4 => ?_⟩
  · exact ⟨_, Heap.get?_push_of_some _ (Heap.get?_push_size _ rfl), rfl, rfl⟩
  · exact (hl.push _).push _
  · exact Heap.get?_push_of_some _ (Heap.get?_push_of_some _ e)
  · have g : ((s.heap.push { cls := .type "list_iterator", data := .fields #[.ref l, .int 0 0] }).push { cls := .type "list", data := .seq #[.ref p] }).get? (s.heap.push { cls := .type "list_iterator", data := .fields #[.ref l, .int 0 0] }).objs.size = some { cls := .type "list", data := .seq #[.ref p] } := Heap.get?_push_size _ rfl
    rw [sz] at g
    exact g
  · exact Heap.get?_push_of_some _ (Heap.get?_push_of_some _ hpz)
  · exact h h' tk tot n (g1 hpos) g3 (by simpa using g4)
end
/-! ### by data -/
def lstsOf : List D → Option (List (List D))
  | [] => some []
  | .lst xs :: ds => (lstsOf ds).map (xs :: ·)
  | _ => none
def sumLD : D → Option Val
  | .lst xs => match lstsOf xs with
    | some zs => if zs ≠ [] ∧ (zs.map List.length).sum ≤ 1000000 then some (.fr (.lst zs.flatten)) else none
    | none => none
  | _ => none
/-- the lists behind the values -/
theorem lists_of {X : Cx} {c : Tc} {pins : List (Addr × Obj)} {σ : L2.St} {H G : Hp} {s : Shared} (I : Inv X pins σ H s) (sg : Same G H) : ∀ {ds : List D} {vs : List V} {us : List Value} {zs : List (List D)}, Reps (tb X c) G ds vs → Vals vs us → lstsOf ds = some zs →
    ∃ (vz : List (List V)) (parts : List (List Value)), parts.length = us.length ∧ zs.length = parts.length ∧ (parts.map List.length) = zs.map List.length ∧ (∀ (i : Nat) (h : i < parts.length), ∃ a n, us[i]? = some (.ref a) ∧ s.heap.get? a = some (lObj parts[i] n)) ∧ Vals vz.flatten parts.flatten ∧ Reps (tb X c) G zs.flatten vz.flatten
  | [], vs, us, zs, r, rv, h => by
    have : vs = [] := by simpa [Reps] using r
    subst this
    cases rv
    cases h
    exact ⟨[], [], rfl, rfl, rfl, fun i h => absurd h (Nat.not_lt_zero i), .nil, rfl⟩
  | d :: ds, vs, us, zs, r, rv, h => by
    simp only [Reps] at r
    obtain ⟨v, vr, rfl, r1, r2⟩ := r
    cases d with
    | lst xs =>
      simp only [lstsOf] at h
      cases k : lstsOf ds with
      | none => rw [k] at h; cases h
      | some ys =>
        rw [k] at h
        cases h
        cases rv with
        | cons q1 q2 =>
          obtain ⟨vz, parts, e1, e2, e3, e4, e5, e6⟩ := lists_of I sg r2 q2 k
          simp only [Rep] at r1
          obtain ⟨a, ws, rfl, m1, m2⟩ := r1
          have q1 := q1
          cases q1
          obtain ⟨z, its, n, rr, hlen, he⟩ := I.lstM (sg _ _ m1)
          refine ⟨ws :: vz, its :: parts, by simp [e1], by simp [e2], ?_, fun i hi => ?_, ?_, ?_⟩
          · rw [List.map_cons, List.map_cons, e3, ← hlen, Reps.length m2]
          · cases i with
            | zero => exact ⟨a, n, rfl, he⟩
            | succ i =>
              obtain ⟨b, m, g1, g2⟩ := e4 i (by simpa using hi)
              exact ⟨b, m, by simpa using g1, by simpa using g2⟩
          · rw [List.flatten_cons, List.flatten_cons]; exact rr.append e5
          · rw [List.flatten_cons, List.flatten_cons]; exact m2.app e6
    | _ => simp [lstsOf] at h
section
variable {X : Cx} {c : Tc} {E : XK} {pos p1 p2 : Pos} {e : Expr} {p : Bool} {f : F}
def rSumL (T : Tb) : List V → Hp → VK → Prop := fun vs H Q => ∃ G a q ds ws zs, vs = [.ref a, .ref q] ∧ Same G H ∧ H a = some (.lst ws) ∧ Reps T G ds ws ∧ H q = some (.lst []) ∧ lstsOf ds = some zs ∧ zs ≠ [] ∧ (zs.map List.length).sum ≤ 1000000 ∧ ∀ r ys, H r = none → Reps T G zs.flatten ys → Q (.ref r) (upd H r (.lst ys))
theorem cr_sumL (hc : X.calm = true) : CallR X (.builtin "sum") (rSumL (tb X c)) := by
  intro pins s σ H vs us Q I rv h
  obtain ⟨G, a, q, ds, ws, zs, rfl, sg, ha, rp, hq, hz, hne, hsz, hQ⟩ := h
  obtain ⟨u1, u2, rfl, r1, r2⟩ := vals2 rv
  have r1 : u1 = Value.ref a := r1
  have r2 : u2 = Value.ref q := r2
  subst r1 r2
  obtain ⟨z, its, n, rr, hlen, he⟩ := I.lstM ha
  obtain ⟨z2, its2, n2, rr2, hlen2, he2⟩ := I.lstM hq
  have i2 : its2 = [] := List.eq_nil_of_length_eq_zero hlen2.symm
  subst i2
  obtain ⟨vz, parts, e1, e2, e3, e4, e5, e6⟩ := lists_of (c := c) I sg rp rr hz
  refine call_sumL (items := its.toArray) (parts := parts) (np := n2) (I.ok.hd hc) ⟨_, he, rfl, n, rfl⟩ he2 (by simp [e1]) ?_ (fun i hi => ?_) (by rw [e3]; exact hsz) fun h' tk tot m g1 g2 g3 => ?_
  · have : zs.length ≠ 0 := fun z => hne (List.eq_nil_of_length_eq_zero z)
    omega
  · obtain ⟨b, m, g1, g2⟩ := e4 i hi
    exact ⟨b, m, by simpa using g1, g2⟩
  · have hy : vz.flatten.length ≤ sizeLine := by
      rw [Reps.length e6, sizeLine_eq, List.length_flatten]; omega
    exact ⟨.ref tot, _, I.laid (t' := tk) (o := .lst vz.flatten) g2 g1 ⟨hy, _, m, e5, g3⟩, rfl, hQ tot _ (I.hok.fresh g1) e6⟩
theorem se_sumL (hc : X.calm = true) (he : SE X c E p e f) (hm : X.mg "sum" = none) (hg : Gl X "sum" := by rfl) (hs : starEach [e, .List [] p2] X.env = (false, eval e X.env) :: starEach [.List [] p2] X.env := by rfl) (hs2 : starEach [.List [] p2] X.env = (false, eval (.List [] p2) X.env) :: starEach [] X.env := by rfl)
    (hpl : (backTo pos (starEach [.List [] p2] X.env)).any (·.1) = false := by rfl) : SE X c E p (.Call (.Name "sum" p1) [e, .List [] p2] [] pos) (unF sumLD f) := by
  refine ⟨PE.weak (pe_callB (cr_sumL (c := c) hc) hg hm (by rfl) (pa_cons he.run (pa_cons (pe_lst pa_nil) pa_nil hs2) hs) (by decide) (by decide) hs hpl) fun σ H Q h => rd_mono (un_core h) fun x H1 h => ?_⟩
  obtain ⟨G, d, r, s, h1, h3, h4⟩ := h
  cases d with
  | lst xs =>
    simp only [sumLD] at h3
    cases k : lstsOf xs with
    | none => rw [k] at h3; cases h3
    | some zs =>
      simp only [k] at h3
      split at h3
      · rename_i hz
        cases h3
        obtain ⟨l, vs, rfl, a1, a2⟩ := h1.lst s
        refine ⟨Nat.zero_le _, fun q hq => ?_⟩
        have g0 : Same G (upd H1 q (.lst [])) := s.trans (same_upd hq)
        refine ⟨G, l, q, xs, vs, zs, rfl, g0, ?_, a2, upd_same, k, hz.1, hz.2, fun r ys hr hy => ?_⟩
        · rw [upd_ne (ne_of_none a1 hq)]; exact a1
        · have g1 : Grow G H1 G (upd H1 q (.lst [])) := Grow.mine s hq
          have hr1 : H1 r = none := none_of_same g1.h hr
          obtain ⟨g2, a3, vs3, m1, m2, m3, m4, m5⟩ := res_lst (T := tb X c) g0 hr hy
          exact h4 _ _ _ (g1.trans g2) ⟨a3, vs3, m1, by cases m1; exact hr1, m3, m4, m5⟩
      · cases h3
  | _ => cases h3
end
end Ev
/-! sorted(set(ints)) -/
namespace Ev
open PySem PySem.Spec L2
open PyProof.Rows (IntsAre)
abbrev set0 (w : World) : Obj := { cls := .type "set", dict := none, data := .set #[] 0 (.fresh 0 0 (!w.params.followText "set-order")) }
section
variable {P : Program} {w : World} {A : Around} {E : Value → Shared → Prop} {s : Shared}
set_option maxHeartbeats 3200000 in
theorem call_setL {l : Addr} {its : Array Value} (ns : List Int) {Q : Value → Shared → Prop} (hh : A.handled = none) (hl : s.heap.IsList l its) (hit : IntsAre its.toList ns) (hb : ns.length + 1 < scanBound)
    (h : ∀ (h' : Heap) (tk c : Nat), SetR w h' s.heap.objs.size (fun j => decide (j ∈ ns)) c → c ≤ ns.length → (∀ b o, s.heap.get? b = some o → h'.get? b = some o) → Q (.ref s.heap.objs.size) { s with heap := h', toks := tk }) :
    wpAny (model P w) A (call (.type "set") [.ref l]) Q E s := by
  have sz0 : its.size = ns.length := by
    have q := IntsAre.length hit
    rwa [Array.length_toList] at q
  obtain ⟨c, tl, m1⟩ := F.called_set.mro
  have m2 := F.called_set.made
  have m3 := F.called_set.sub
  refine wpAny_call (codeAny_of_tree (show wpAny _ _ (callAny (.type "set") _) _ _ _ from wpAny_pure ⟨Code.quiet_builtin _ (by decide +kernel), codeAny_builtin F.entry_type_call ?_⟩))
  rw [Around.under_plain (weight_type_call_type "set" [.ref l] []) rfl]
  have m4 := F.called_set.notType
  have m5 := F.called_set.canCreate
  have m6 := F.typeCall_set_1 (.ref l)
  repeat (any_goals (first | assumption | wp_step))
  refine codeAny_mono (code_set_led1 (.ref l) (E := E) (Q₁ := fun obj s1 => obj = .ref s.heap.objs.size ∧ s1 = { s with heap := s.heap.push (set0 w) }) ⟨rfl, rfl⟩) fun r s1 hr => ?_
  match r, hr with
  | .error e, hr => exact hr
  | .ok .next, hr => exact hr
  | .ok .brk, hr => exact hr
  | .ok .cont, hr => exact hr
  | .ok (.ret obj), hr =>
    obtain ⟨rfl, rfl⟩ := hr
    have at0 : (s.heap.push (set0 w)).get? s.heap.objs.size = some (set0 w) := Heap.get?_push_size _ rfl
    have ty0 : Shared.TypeIs { s with heap := s.heap.push (set0 w) } (.ref s.heap.objs.size) "set" := ⟨_, at0, rfl⟩
    have i1 := F.called_set.init.lookup
    have i2 := F.called_set.init.bind (.ref s.heap.objs.size)
    repeat (any_goals (first | assumption | wp_step))
    refine codeAny_mono (codeAny_call_builtin (R := wants (fun r s2 => r = .none ∧ ∃ h' tk c, s2 = { s with heap := h', toks := tk } ∧ SetR w h' s.heap.objs.size (fun j => decide (j ∈ ns)) c ∧ c ≤ ns.length ∧ (∀ b o, s.heap.get? b = some o → h'.get? b = some o)) E) F.called_set.init.plain F.entry_set_init (check_set_init_1 ty0 ?_)) fun r2 s2 hr2 => ?_
    · obtain ⟨⟨lc, ld, lt, ls⟩, lo, k1, ln, k2⟩ := hl
      simp only at k1 k2
      subst k1 k2
      have lo1 : (s.heap.push (set0 w)).get? l = some { cls := .type "list", dict := ld, data := .seq its ln, slots := ls } := Heap.get?_push_of_some _ lo
      have j1 := F.sub_list_set
      have j2 := F.sub_list_frozenset
      have j3 : (Value.type "list" == Value.type "dict") = false := by decide
      have l1 : (s.heap.push (set0 w)).IsList l its := ⟨_, lo1, rfl, ln, rfl⟩
      unfold Builtin.«set.__init__» noKeywords Builtin.Frozenset.updateFrom
      generalize hPI : pyIter = PI
      wp_walk
      subst hPI
      refine wpAny_pyIter_list l1 (wpAny_bind (wpAny_runValue ?_))
      have lS : l < s.heap.objs.size := Heap.lt_size lo
      have hh3 : A.in1.in1.in1.handled = none := by simp [hh]
      have sz1 : (s.heap.push (set0 w)).objs.size = s.heap.objs.size + 1 := Heap.size_push ..
      have nI : l ≠ (s.heap.push (set0 w)).objs.size := by rw [sz1]; exact Nat.ne_of_lt (Nat.lt_succ_of_lt lS)
      have notin : s.heap.objs.size ∉ [(s.heap.push (set0 w)).objs.size, l] := by
        rw [sz1]; simp only [List.mem_cons, List.not_mem_nil, or_false, not_or]
        exact ⟨Nat.ne_of_lt (Nat.lt_succ_self _), Nat.ne_of_gt lS⟩
      have val : ∀ (i : Nat) (v : Value), its[i]? = some v → ∃ k t, ns[i]? = some k ∧ v = .int k t := fun i v hv => by
        have hi : i < ns.length := by rw [← sz0]; exact (Array.getElem?_eq_some_iff.mp hv).1
        obtain ⟨t, e⟩ := PyProof.Rows.IntsAre.int_at hit i v (by rw [Array.getElem?_toList]; exact hv)
        exact ⟨ns[i], t, List.getElem?_eq_getElem hi, by rw [e, List.getD_eq_getElem?_getD, List.getElem?_eq_getElem hi] <;> rfl⟩
      refine set_update_ints ((Walks.list hh3 _ l nI its).toS) s.heap.objs.size notin ns sz0 hb val (its.size - 0) 0 _ (by omega) (Nat.zero_le _) ⟨⟨_, Heap.get?_push_size _ rfl, rfl, rfl⟩, (l1.push _)⟩ ?hS0 ?hR
      case hS0 =>
        have g : ((s.heap.push (set0 w)).push { cls := .type "list_iterator", data := .fields #[.ref l, .int 0 0] }).get? s.heap.objs.size = some (set0 w) := Heap.get?_push_of_some _ at0
        exact ⟨0, Nat.le_refl 0, setR_new_at g⟩
      case hR =>
        intro s3 c3 mv hc3 hS3
        obtain ⟨h3, g3, d3, tk3, os3⟩ := s3
        have e1 : g3 = s.gens := mv.gens
        have e2 : d3 = s.drawn := mv.drawn
        have e3 : os3 = s.os := mv.os
        subst e1 e2 e3
        show wpAny _ _ _ _ _ _
        refine wpAny_pure ?_
        show wpAny _ _ (ret Value.none) _ _ _
        rw [sz0] at hc3
        refine wpAny_pure ⟨rfl, h3, tk3, c3, rfl, hS3, hc3, fun b o e => ?_⟩
        have b0 : b < s.heap.objs.size := Heap.lt_size e
        have b1 : b ≠ s.heap.objs.size := Nat.ne_of_lt b0
        have b2 : b ≠ (s.heap.push (set0 w)).objs.size := by rw [sz1]; exact Nat.ne_of_lt (Nat.lt_succ_of_lt b0)
        exact mv.heap b o (by simp only [List.mem_cons, List.not_mem_nil, or_false, not_or]; exact ⟨b1, b2⟩) (Heap.get?_push_of_some _ (Heap.get?_push_of_some _ e))
    · match r2, hr2 with
      | .error e, hr2 => exact hr2
      | .ok .next, hr2 => exact hr2.elim
      | .ok .brk, hr2 => exact hr2.elim
      | .ok .cont, hr2 => exact hr2.elim
      | .ok (.ret u), hr2 =>
        obtain ⟨rfl, h', tk, c, rfl, q1, q2, q3⟩ := hr2
        repeat (any_goals (first | assumption | wp_step))
        exact h h' tk c q1 q2 q3
end
end Ev
namespace Ev
open PySem PySem.Spec L2
/-! ### {} -/
def dctF : F := fun env => some (.ok (.sh (.dct [] [])) env)
theorem se_dct0 {X : Cx} {c : Tc} {E : XK} {pos : Pos} : SE X c E true (.Dict [] [] pos) dctF := ⟨PE.weak pe_dnewK fun σ H Q h => by
  obtain ⟨B, G, ios, env, S, h⟩ := h
  intro p hp
  have g := Grow.new (o := .dK []) S.gh hp
  refine PostE.res h S g ?_
  show Rep (tb X c) _ (.dct [] []) (.ref p)
  simp only [Rep]
  exact ⟨p, rfl, trivial, trivial, upd_same⟩⟩
/-! ### sorted(set(ints)) -/
def insD (x : Int) : List Int → List Int
  | [] => [x]
  | y :: l => if x < y then x :: y :: l else if x = y then y :: l else y :: insD x l
def dsort : List Int → List Int
  | [] => []
  | x :: l => insD x (dsort l)
theorem insD_mem {x k : Int} : ∀ {l : List Int}, k ∈ insD x l ↔ k = x ∨ k ∈ l
  | [] => by simp [insD]
  | y :: l => by
    unfold insD
    split
    · simp
    · split
      · rename_i h; subst h; simp
      · rw [List.mem_cons, insD_mem, List.mem_cons]
        constructor
        · rintro (h | h | h)
          · exact .inr (.inl h)
          · exact .inl h
          · exact .inr (.inr h)
        · rintro (h | h | h)
          · exact .inr (.inl h)
          · exact .inl h
          · exact .inr (.inr h)
theorem insD_pair {x : Int} : ∀ {l : List Int}, l.Pairwise (· < ·) → (insD x l).Pairwise (· < ·)
  | [], _ => by simp [insD]
  | y :: l, h => by
    obtain ⟨h1, h2⟩ := List.pairwise_cons.mp h
    unfold insD
    split
    · rename_i hx
      refine List.pairwise_cons.mpr ⟨fun z hz => ?_, h⟩
      rcases List.mem_cons.mp hz with e | hz
      · rw [e]; exact hx
      · exact Int.lt_trans hx (h1 z hz)
    · split
      · exact h
      · rename_i n1 n2
        refine List.pairwise_cons.mpr ⟨fun z hz => ?_, insD_pair h2⟩
        rcases insD_mem.mp hz with e | hz
        · rw [e]; omega
        · exact h1 z hz
theorem dsort_mem {k : Int} : ∀ {l : List Int}, k ∈ dsort l ↔ k ∈ l
  | [] => by simp [dsort]
  | x :: l => by
    unfold dsort
    rw [insD_mem, dsort_mem, List.mem_cons]
theorem dsort_pair : ∀ {l : List Int}, (dsort l).Pairwise (· < ·)
  | [] => .nil
  | _ :: l => insD_pair (dsort_pair (l := l))
/-- two rising lists with the same members are one -/
theorem rising_eq : ∀ {l m : List Int}, l.Pairwise (· < ·) → m.Pairwise (· < ·) → (∀ k, k ∈ l ↔ k ∈ m) → l = m
  | [], [], _, _, _ => rfl
  | [], y :: m, _, _, h => absurd ((h y).mpr List.mem_cons_self) (by simp)
  | x :: l, [], _, _, h => absurd ((h x).mp List.mem_cons_self) (by simp)
  | x :: l, y :: m, h1, h2, h => by
    obtain ⟨a1, a2⟩ := List.pairwise_cons.mp h1
    obtain ⟨b1, b2⟩ := List.pairwise_cons.mp h2
    have e : x = y := by
      rcases List.mem_cons.mp ((h x).mp List.mem_cons_self) with e | hx
      · exact e
      · rcases List.mem_cons.mp ((h y).mpr List.mem_cons_self) with e | hy
        · exact e.symm
        · have c1 := b1 x hx
          have c2 := a1 y hy
          omega
    subst e
    rw [rising_eq a2 b2 fun k => ⟨fun hk => ?_, fun hk => ?_⟩]
    · rcases List.mem_cons.mp ((h k).mp (List.mem_cons_of_mem _ hk)) with e | q
      · have := a1 k hk; omega
      · exact q
    · rcases List.mem_cons.mp ((h k).mpr (List.mem_cons_of_mem _ hk)) with e | q
      · have := b1 k hk; omega
      · exact q
def sosD : D → Option Val
  | .lst xs => match intsOf xs with
    | some ns => if ns.length < 60 then some (.fr (.lst ((dsort ns).map .int))) else none
    | none => none
  | _ => none
theorem reps_ints {T : Tb} {G : Hp} : ∀ {l : List Int}, Reps T G (l.map .int) (l.map V.int)
  | [] => rfl
  | _ :: _ => ⟨_, _, rfl, rep_int, reps_ints⟩
section
variable {X : Cx} {c : Tc} {E : XK} {pos p1 p2 p3 : Pos} {e : Expr} {p : Bool} {f : F}
theorem cr_setL (hc : X.calm = true) : CallR X (.type "set") (fun vs H Q => ∃ (a : Addr) (ns : List Int), vs = [V.ref a] ∧ H a = some (.lst (ns.map V.int)) ∧ ns.length < 60 ∧ ∀ (r : Addr) (n : Nat), H r = none → n < 64 → Q (.ref r) (upd H r (SetO X.w r (fun j => decide (j ∈ ns)) n))) := by
  intro pins s σ H vs us Q I rv h
  obtain ⟨a, ns, rfl, ha, hl, q⟩ := h
  obtain ⟨u, rfl, ru⟩ := vals1 rv
  have ru : u = Value.ref a := ru
  subst ru
  obtain ⟨z, its, n, rr, hlen, he⟩ := I.lstM ha
  refine call_setL ns (I.ok.hd hc) ⟨_, he, rfl, n, rfl⟩ (by simpa using rr.ints) (by unfold scanBound; omega) fun h' tk c0 hS hc0 hk => ?_
  exact ⟨.ref _, _, I.laid (t' := tk) hk (Nat.le_refl _) (setO_new hS), rfl, q _ c0 (I.hok.fresh (Nat.le_refl _)) (by omega)⟩
theorem se_sos (hc : X.calm = true) (he : SE X c E p e f) (hm : X.mg "sorted" = none) (hm2 : X.mg "set" = none) (hg : Gl X "sorted" := by rfl) (hg2 : Gl X "set" := by rfl) (hs : starEach [e] X.env = (false, eval e X.env) :: starEach [] X.env := by rfl)
    (hs2 : starEach [.Call (.Name "set" p2) [e] [] p3] X.env = (false, eval (.Call (.Name "set" p2) [e] [] p3) X.env) :: starEach [] X.env := by rfl) : SE X c E p (.Call (.Name "sorted" p1) [.Call (.Name "set" p2) [e] [] p3] [] pos) (unF sosD f) := by
  refine ⟨PE.weak (pe_callB (cr_sortedSet hc) hg hm (by rfl) (pa_cons (pe_callTy (cr_setL hc) hg2 hm2 (by rfl) (pa_cons he.run pa_nil hs) (by decide) (by decide) hs rfl) pa_nil hs2) (by decide) (by decide) hs2 rfl) fun σ H Q h => rd_mono (un_core h) fun x H1 h => ?_⟩
  obtain ⟨G, d, r, s, h1, h3, h4⟩ := h
  cases d with
  | lst xs =>
    simp only [sosD] at h3
    cases k : intsOf xs with
    | none => rw [k] at h3; cases h3
    | some ns =>
      simp only [k] at h3
      split at h3
      · rename_i hz
        cases h3
        obtain ⟨l, vs, rfl, a1, a2⟩ := h1.lst s
        refine ⟨l, ns, rfl, by rw [← a2.ints k]; exact a1, hz, fun q n hq hn => ?_⟩
        refine ⟨q, _, n, rfl, upd_same, hn, fun ms t m1 m2 m3 ht => ?_⟩
        have em : ms = dsort ns := rising_eq m1 dsort_pair fun k => by rw [m2 k, decide_eq_true_iff, dsort_mem]
        subst em
        have g1 := Grow.mine (G := G) (o := SetO X.w q (fun j => decide (j ∈ ns)) n) s hq
        have ht1 : H1 t = none := none_of_same g1.h ht
        obtain ⟨g2, a3, vs3, e1, e2, e3, e4, e5⟩ := res_lst (T := tb X c) g1.gh ht (reps_ints (T := tb X c) (G := G) (l := dsort ns))
        exact h4 _ _ _ (g1.trans g2) ⟨a3, vs3, e1, by cases e1; exact ht1, e3, e4, e5⟩
      · cases h3
  | _ => cases h3
end
end Ev
/-! a law's end, its def promised under no repr -/
namespace Ev
open PySem PySem.Spec L2
open PyProof.Rows (IntsAre AllBare)
theorem end_call {P : Program} {w : World} {K : PySem.W.Frag} {mg mb : Str → Option Value} {k : Nat} {fa a : Addr} {fd : FuncData} {x : Str} {T : Tb} {f : Fn} {s1 : Shared} {vs : List Value} {ns : List Int} (hT : T.K = K)
    (KX : K.In s1.heap) (hns : s1.heap.Ns mainGlobals mg) (hb : s1.heap.Ns builtinsNs mb) (boot : ∀ x : Str, x ≠ "__name__" → mb x = bootBuiltins x) (nolim : s1.heap.NoLimit) (hg : s1.gens = #[])
    (ha : s1.heap.get? a = some { cls := .type "list", data := .seq vs.toArray }) (hi : IntsAre vs ns) (hl : ns.length ≤ sizeLine) (room : Room k callerA)
    (F : ∀ base : Heap, K.In base → base.Ns mainGlobals mg → FnG P w K mg base (L2.CX P w) k fa fd [x] (spP T f)) (bind : ∀ (s : Shared) (u : Value), BindsTo s fd ⟨[u], []⟩ [(x, u)]) (law : f [.scr (ns.map .int)] = some (.ok (.sh (.bl true)))) :
    codeAny (model P w) callerA (.call (.ref fa) ⟨[.ref a], []⟩) (fun r s' => r = .ok (.ret (.bool true)) ∧ OldK s1.heap s'.heap ∧ s'.os = s1.os ∧ AllBare s'.gens) s1 := by
  subst hT
  have rv := vals_ints hi
  have len := hi.length
  have main : ∀ H : Hp, Only H → SqL T.K H a (ns.map V.int) → HOk P w H s1.heap → (∀ b, H b ≠ none → b = a) → (H a ≠ none → T.K.lookup a = none) →
      codeAny (model P w) callerA (.call (.ref fa) ⟨[.ref a], []⟩) (fun r s' => r = .ok (.ret (.bool true)) ∧ OldK s1.heap s'.heap ∧ s'.os = s1.os ∧ AllBare s'.gens) s1 := by
    intro H only sq ok one noK
    have isA : ∀ {b : Addr} {u : HO}, H b = some u → b = a := fun {b u} q => one b (by rw [q]; simp)
    have back : ∀ {b : Addr} {o : Obj}, s1.heap.get? b = some o → H b = none → (hidT s1.heap H).get? b = some o := fun e n => hidT_get e n
    have dictNo : ∀ {b : Addr} {o : Obj} {es : Array DictEntry} {ep : Nat}, s1.heap.get? b = some o → o.data = .dict es ep → H b = none := fun {b o es ep} e d => by
      cases q : H b with
      | none => rfl
      | some u =>
        have z := isA q
        subst z
        rw [ha] at e; cases e
        have z : Data.seq vs.toArray _ = Data.dict es ep := d
        cases z
    have nsB : ∀ {b : Addr} {m : Str → Option Value}, s1.heap.Ns b m → (hidT s1.heap H).Ns b m := fun {b m} z => by
      obtain ⟨o, es, ep, e, d, r⟩ := z
      exact ⟨o, es, ep, back e (dictNo e d), d, r⟩
    have inB : T.K.In (hidT s1.heap H) := fun b o e => by
      refine back (KX b o e) ?_
      cases q : H b with
      | none => rfl
      | some u =>
        have z := isA q
        subst z
        rw [noK (by rw [q]; simp)] at e; cases e
    have modB : Mod T.K mg (hidT s1.heap H) := by
      obtain ⟨mc, l1, l2⟩ := nolim
      exact ⟨inB, nsB hns, ⟨mb, nsB hb, boot⟩, mc, nsB l1, l2⟩
    have noAddr : ∀ b : Addr, b ∉ ([] : List Addr) := fun b => by simp
    have e0 : Env0 P w T.K mg (hidT s1.heap H) callerA [] s1 H := ⟨rfl, modB, fun b o e => of_hidT e, Nat.le_of_eq (hidT_size _ _), trivial, fun b z => absurd z (noAddr b), ok, .of_eq hg⟩
    have want : spP T f [.ref a] H (fun v _ => v = .bl true) (fun _ _ _ => False) := by
      refine ⟨H, [.scr (ns.map .int)], Same.refl H, ⟨_, _, rfl, ?_, rfl⟩, ?_⟩
      · simp only [Rep]
        refine ⟨a, ns.map V.int, rfl, sq, ?_⟩
        have go : ∀ l : List Int, Reps T H (l.map .int) (l.map V.int) := fun l => by
          induction l with
          | nil => rfl
          | cons i l ih => exact ⟨_, _, rfl, rep_int, ih⟩
        exact go ns
      · rw [law]
        intro G' H' v _ ro
        have ro : Rep T G' (.bl true) v := ro
        simpa [Rep] using ro
    refine codeAny_mono ((F _ inB (nsB hns)).go callerA room rfl [] s1 H e0 ⟨[.ref a], []⟩ [.ref a] [.ref a] (bind s1 (.ref a)) (.cons rfl .nil) _ _ want) fun r s' h => ?_
    match r, h with
    | .error e, h => exact (h.elim fun _ z => z.elim fun _ z => z.elim fun _ z => z.elim fun _ z => z.elim fun _ z => False.elim z.2.2.2.2.2.2.2)
    | .ok .next, h => exact h.elim
    | .ok .brk, h => exact h.elim
    | .ok .cont, h => exact h.elim
    | .ok (.ret u), h =>
      obtain ⟨v, H', os, bare, un, ok', r', q⟩ := h
      have q : v = .bl true := q
      subst q
      have hu : u = Value.bool true := r'
      subst hu
      refine ⟨rfl, OldK.of_keep fun b o e => ?_, os, bare⟩
      cases q : H b with
      | none => exact un.keep b o e q (fun z => absurd z (noAddr b)) (by simp)
      | some u =>
        rcases only b with z | ⟨ob, xs, z⟩
        · rw [q] at z; cases z
        · obtain ⟨m1, _⟩ := ok b _ z
          obtain ⟨m2, _⟩ := ok' b _ (un.frzs b ob _ z)
          rw [e] at m1; cases m1
          exact m2
  cases hk : T.K.lookup a with
  | some o =>
    have e := KX a o hk
    rw [ha] at e
    cases e
    have sz : vs.toArray.size ≤ sizeLine := by rw [List.size_toArray, len]; exact hl
    exact main (fun _ => none) (fun _ => .inl rfl) (.inr ⟨_, vs.toArray, _, hk, rfl, rfl, rfl, sz, by simpa using rv⟩) (fun b u z => nomatch z) (fun b z => absurd rfl z) fun z => absurd rfl z
  | none =>
    let H0 : Hp := fun b => if b = a then some (.frz { cls := .type "list", data := .seq vs.toArray } (.lst (ns.map V.int))) else none
    have at_ : H0 a = some (.frz { cls := .type "list", data := .seq vs.toArray } (.lst (ns.map V.int))) := if_pos rfl
    have off : ∀ {b : Addr}, b ≠ a → H0 b = none := fun n => if_neg n
    refine main H0 (fun b => ?_) (.inl (.inr ⟨_, at_⟩)) (fun b u z => ?_) (fun b z => ?_) fun _ => hk
    · by_cases n : b = a
      · subst n; exact .inr ⟨_, _, at_⟩
      · exact .inl (off n)
    · by_cases n : b = a
      · subst n
        rw [at_] at z
        cases z
        exact ⟨ha, by rw [List.length_map]; exact hl, vs, _, rv, ha⟩
      · rw [off n] at z; cases z
    · by_cases n : b = a
      · exact n
      · exact absurd (off n) z
/-- a law: F gives the written part, the function object, the promise over every base -/
theorem walk_end {l : PySem.W.OpenLaw} {n k : Nat} {q : Program} {loose : List Str} {XP : (Str → Option Value) → Heap → Prop} {YP : World → Heap → Prop} {d : DefRec} {x : Str} {f : Fn} (hn : l.most = some n) (hn2 : n ≤ sizeLine) (hdf : d.params.defaults = []) (room : Room k callerA)
    (law : ∀ ns : List Int, ns.length ≤ n → f [.scr (ns.map .int)] = some (.ok (.sh (.bl true))))
    (F : ∀ (w : World) (mg : Str → Option Value) (fa : Addr) (h : Heap), YP w h → h.Ns mainGlobals mg → mg d.name = some (.ref fa) →
      ∃ (T : Tb) (fd : FuncData), T.K.In h ∧ (∀ (s : Shared) (u : Value), BindsTo s fd ⟨[u], []⟩ [(x, u)]) ∧ ∀ base : Heap, T.K.In base → base.Ns mainGlobals mg → FnG l.prog w T.K mg base (L2.CX l.prog w) k fa fd [x] (spP T f)) :
    PySem.W.WalkO q loose XP YP l.row.toRowW d [] (fun f vs => PySem.call f vs) := by
  refine Att.attach_call hn hdf fun w s0 s1 mg mb fa o pm cd doc a vs ns G Y ho hd hcd hmg hobj hints hlen hg => ?_
  obtain ⟨T, fd, KX, hb, hF⟩ := F w mg fa _ Y G.T.g hmg
  exact end_call rfl KX G.T.g G.T.b G.T.builtins G.T.nolimit hg hobj hints (Nat.le_trans hlen hn2) room hF hb (law ns hlen)
end Ev
namespace K94
open PySem PySem.Spec L2 Ev
/-! printed by gen.py -/
def top (i : Nat) : Stmt := PySem.Challenge.pw_arrowspaces_k94_whole_shapes_and_orders.main.body.getD i (.Pass ⟨0, 0, 0, 0⟩)
def mem (i j : Nat) : Stmt := match top i with
  | .ClassDef (body := b) .. => b.getD j (.Pass ⟨0, 0, 0, 0⟩)
  | _ => .Pass ⟨0, 0, 0, 0⟩
def nms_Web : List Str := ["places", "arrows"]
theorem nd_Web : nms_Web.Nodup := by decide +kernel
noncomputable def g_is_integer : FS :=
  (retF (andF (unF (isiD "int") (varF 0)) (notF (unF (isiD "bool") (varF 0)))))
noncomputable def f_is_integer : Fn := runF 1 1 g_is_integer
noncomputable def g_is_within : FS :=
  (retF (andF (caF f_is_integer (consA (varF 0) nilA)) (chF (cm2 fun i j => decide (i ≤ j)) (cm2 fun i j => decide (i ≤ j)) (varF 1) (varF 0) (varF 2))))
noncomputable def f_is_within : Fn := runF 3 3 g_is_within
noncomputable def g_is_tuple : FS :=
  (retF (andF (unF (isiD "tuple") (varF 0)) (chF (cm2 fun i j => decide (i ≤ j)) (cm2 fun i j => decide (i ≤ j)) (varF 1) (clF lenD (consA (varF 0) nilA)) (varF 2))))
noncomputable def f_is_tuple : Fn := runF 3 3 g_is_tuple
noncomputable def g_is_row : FS :=
  (retF (andF (caF f_is_tuple (consA (varF 0) (consA (varF 1) (consA (varF 1) nilA)))) (clF allD (consA (compF true [4] (seqI (varF 0)) (gnF 4) yesT (caF f_is_within (consA (varF 4) (consA (varF 2) (consA (varF 3) nilA))))) nilA))))
noncomputable def f_is_row : Fn := runF 4 5 g_is_row
noncomputable def g_Web_order_from : FS :=
  (seqF (parF 1 2 (unF lrgD (unF (fldD 0 0) (varF 0))) (lstF nilA))
    (seqF (whileF (cmpT (cm2 fun i j => decide (j < i)) (clF lenD (consA (varF 1) nilA)) (shF (.int 0))) (seqF (setF 3 (compF true [4] (seqI (varF 1)) (gnF 4) (notT (truF (clF anyD (consA (compF true [5, 6] (seqI (unF (fldD 0 1) (varF 0))) (gtF (gconsF (gnF 5) (gconsF (gnF 6) gnilF))) yesT (andF (binF (oBl eqD) (varF 6) (varF 4)) (binF (oBl (inD false)) (varF 5) (varF 1)))) nilA)))) (varF 4)))
    (seqF (ifS (cmpT eqD (clF lenD (consA (varF 3) nilA)) (shF (.int 0))) (retF (shF .non)) nxF)
    (seqF (exprF (mtF 2 appM (consA (binF ixD (varF 3) (shF (.int 0))) nilA)))
    (exprF (mtF 1 remM (consA (binF ixD (varF 3) (shF (.int 0))) nilA)))))))
    (retF (varF 2))))
noncomputable def f_Web_order_from : Fn := runF 1 7 g_Web_order_from
noncomputable def g_Web___init__ : FS :=
  (seqF (ifS (notT (truF (caF f_is_within (consA (varF 1) (consA (shF (.int 1)) (consA (shF (.int 8)) nilA)))))) (fun _ => none) nxF)
    (seqF (ifS (notT (truF (caF f_is_tuple (consA (varF 2) (consA (shF (.int 0)) (consA (shF (.int 14)) nilA)))))) (fun _ => none) nxF)
    (seqF (forF (enI (consA (varF 2) nilA)) (gtF (gconsF (gnF 3) (gconsF (gnF 4) gnilF))) (ifS (orT (notT (truF (caF f_is_row (consA (varF 4) (consA (shF (.int 2)) (consA (shF (.int 0)) (consA (binF subD (varF 1) (shF (.int 1))) nilA))))))) (cmpT eqD (binF ixD (varF 4) (shF (.int 0))) (binF ixD (varF 4) (shF (.int 1))))) (fun _ => none) nxF))
    (seqF (setFldF 0 "places" (varF 1))
    (seqF (setFldF 0 "arrows" (varF 2))
    (ifS (cmpT (isD false) (meSF 0 0 nms_Web f_Web_order_from) (shF .non)) (fun _ => none) nxF))))))
noncomputable def f_Web___init__ : Fm := runM 0 nms_Web 3 5 g_Web___init__
noncomputable def g_Web___eq__ : FS :=
  (retF (andF (unF (isiC 0) (varF 1)) (binF (oBl eqD) (tupF (consA (unF (fldD 0 0) (varF 0)) (consA (unF (fldD 0 1) (varF 0)) nilA))) (tupF (consA (unF (fldD 0 0) (varF 1)) (consA (unF (fldD 0 1) (varF 1)) nilA))))))
noncomputable def f_Web___eq__ : Fn := runF 2 2 g_Web___eq__
noncomputable def g_form_by : FS :=
  (seqF (setF 3 (clF sumD (consA (compF true [4, 5] (zipI (consA (varF 1) (consA (varF 2) nilA))) (gtF (gconsF (gnF 4) (gconsF (gnF 5) gnilF))) yesT (binF mulD (varF 4) (varF 5))) nilA)))
    (retF (binF subD (varF 3) (clF sumD (consA (compF true [4, 5] (seqI (unF (fldD 0 1) (varF 0))) (gtF (gconsF (gnF 4) (gconsF (gnF 5) gnilF))) yesT (binF mulD (binF ixD (varF 1) (varF 4)) (binF ixD (varF 2) (varF 5)))) nilA)))))
noncomputable def f_form_by : Fn := runF 3 6 g_form_by
noncomputable def g_orders_of : FS :=
  (seqF (setF 1 (lstF (consA (tupF nilA) nilA)))
    (seqF (forF (rg1I (consA (varF 0) nilA)) (gnF 2) (seqF (setF 1 (compF2 [3, 4] [4] (seqI (varF 1)) (gnF 3) yesT (rg1I (consA (varF 0) nilA)) (gnF 4) (cmpT (inD true) (varF 4) (varF 3)) (binF addD (varF 3) (tupF (consA (varF 4) nilA)))))
    (ifS (cmpT (cm2 fun i j => decide (j < i)) (clF lenD (consA (varF 1) nilA)) (shF (.int 5040))) (fun _ => none) nxF)))
    (retF (varF 1))))
noncomputable def f_orders_of : Fn := runF 1 5 g_orders_of
noncomputable def g_with_places : FS :=
  (retF (mkF 0 f_Web___init__ (consA (unF (fldD 0 0) (varF 0)) (consA (clF tupleD (consA (clF sortD (consA (compF true [2, 3] (seqI (unF (fldD 0 1) (varF 0))) (gtF (gconsF (gnF 2) (gconsF (gnF 3) gnilF))) yesT (tupF (consA (binF ixD (varF 1) (varF 2)) (consA (binF ixD (varF 1) (varF 3)) nilA)))) nilA)) nilA)) nilA))))
noncomputable def f_with_places : Fn := runF 2 4 g_with_places
noncomputable def g_shape_order : FS :=
  (seqF (ifS (orT (cmpT neD (unF (fldD 0 0) (varF 0)) (unF (fldD 0 0) (varF 1))) (cmpT neD (clF lenD (consA (unF (fldD 0 1) (varF 0)) nilA)) (clF lenD (consA (unF (fldD 0 1) (varF 1)) nilA)))) (retF (shF .non)) nxF)
    (seqF (setF 2 (clF sortD (consA (unF (fldD 0 1) (varF 1)) nilA)))
    (seqF (forF (seqI (caF f_orders_of (consA (unF (fldD 0 0) (varF 0)) nilA))) (gnF 3) (ifS (cmpT eqD (clF sortD (consA (compF true [4, 5] (seqI (unF (fldD 0 1) (varF 0))) (gtF (gconsF (gnF 4) (gconsF (gnF 5) gnilF))) yesT (tupF (consA (binF ixD (varF 3) (varF 4)) (consA (binF ixD (varF 3) (varF 5)) nilA)))) nilA)) (varF 2)) (retF (varF 3)) nxF))
    (retF (shF .non)))))
noncomputable def f_shape_order : Fn := runF 2 6 g_shape_order
noncomputable def g_own_orders : FS :=
  (seqF (setF 1 (clF sortD (consA (unF (fldD 0 1) (varF 0)) nilA)))
    (retF (compF true [2] (seqI (caF f_orders_of (consA (unF (fldD 0 0) (varF 0)) nilA))) (gnF 2) (cmpT eqD (clF sortD (consA (compF true [3, 4] (seqI (unF (fldD 0 1) (varF 0))) (gtF (gconsF (gnF 3) (gconsF (gnF 4) gnilF))) yesT (tupF (consA (binF ixD (varF 2) (varF 3)) (consA (binF ixD (varF 2) (varF 4)) nilA)))) nilA)) (varF 1)) (varF 2))))
noncomputable def f_own_orders : Fn := runF 1 5 g_own_orders
noncomputable def g_is_shape_order : FS :=
  (seqF (ifS (orT (cmpT neD (unF (fldD 0 0) (varF 0)) (unF (fldD 0 0) (varF 1))) (notT (truF (caF f_is_row (consA (varF 2) (consA (unF (fldD 0 0) (varF 0)) (consA (shF (.int 0)) (consA (binF subD (unF (fldD 0 0) (varF 0)) (shF (.int 1))) nilA)))))))) (retF (shF (.bl false))) nxF)
    (seqF (ifS (cmpT neD (clF sortD (consA (varF 2) nilA)) (unF lrgD (unF (fldD 0 0) (varF 0)))) (retF (shF (.bl false))) nxF)
    (retF (binF (oBl eqD) (clF sortD (consA (compF true [3, 4] (seqI (unF (fldD 0 1) (varF 0))) (gtF (gconsF (gnF 3) (gconsF (gnF 4) gnilF))) yesT (tupF (consA (binF ixD (varF 2) (varF 3)) (consA (binF ixD (varF 2) (varF 4)) nilA)))) nilA)) (clF sortD (consA (unF (fldD 0 1) (varF 1)) nilA))))))
noncomputable def f_is_shape_order : Fn := runF 3 5 g_is_shape_order
noncomputable def g_turned_shapes : FS :=
  (seqF (setF 1 (mkF 0 f_Web___init__ (consA (unF (fldD 0 0) (varF 0)) (consA (clF tupleD (consA (clF sortD (consA (unF (fldD 0 1) (varF 0)) nilA)) nilA)) nilA))))
    (seqF (parF 2 3 (lstF (consA (varF 1) nilA)) (shF (.int 0)))
    (seqF (whileF (cmpT (cm2 fun i j => decide (i < j)) (varF 3) (clF lenD (consA (varF 2) nilA))) (seqF (setF 4 (binF ixD (varF 2) (varF 3)))
    (seqF (forF (rg1I (consA (unF (fldD 0 0) (varF 0)) nilA)) (gnF 5) (ifS (notT (truF (clF anyD (consA (compF true [7, 8] (seqI (unF (fldD 0 1) (varF 4))) (gtF (gconsF (gnF 7) (gconsF (gnF 8) gnilF))) yesT (binF (oBl eqD) (varF 7) (varF 5))) nilA)))) (seqF (setF 6 (mkF 0 f_Web___init__ (consA (unF (fldD 0 0) (varF 0)) (consA (clF tupleD (consA (clF sortD (consA (compF true [7, 8] (seqI (unF (fldD 0 1) (varF 4))) (gtF (gconsF (gnF 7) (gconsF (gnF 8) gnilF))) yesT (ifF (cmpT eqD (varF 8) (varF 5)) (tupF (consA (varF 8) (consA (varF 7) nilA))) (tupF (consA (varF 7) (consA (varF 8) nilA))))) nilA)) nilA)) nilA))))
    (ifS (cmpT (inIns 0 2 true) (varF 6) (varF 2)) (seqF (ifS (cmpT eqD (clF lenD (consA (varF 2) nilA)) (shF (.int 400))) (fun _ => none) nxF)
    (exprF (mtF 2 appM (consA (varF 6) nilA)))) nxF)) nxF))
    (augF 3 (shF (.int 1))))))
    (retF (varF 2)))))
noncomputable def f_turned_shapes : Fn := runF 1 9 g_turned_shapes
noncomputable def g_form_is_kept : FS :=
  (seqF (setF 2 (compF true [4] (rg1I (consA (unF (fldD 0 0) (varF 0)) nilA)) (gnF 4) yesT (clF tupleD (consA (compF true [6] (rg1I (consA (unF (fldD 0 0) (varF 0)) nilA)) (gnF 6) yesT (clF intD (consA (binF (oBl eqD) (varF 4) (varF 6)) nilA))) nilA))))
    (seqF (setF 3 (caF f_with_places (consA (varF 0) (consA (varF 1) nilA))))
    (seqF (forF (enI (consA (varF 2) nilA)) (gtF (gconsF (gnF 4) (gconsF (gnF 5) gnilF))) (forF (enI (consA (varF 2) nilA)) (gtF (gconsF (gnF 6) (gconsF (gnF 7) gnilF))) (ifS (cmpT neD (caF f_form_by (consA (varF 0) (consA (varF 5) (consA (varF 7) nilA)))) (caF f_form_by (consA (varF 3) (consA (binF ixD (varF 2) (binF ixD (varF 1) (varF 4))) (consA (binF ixD (varF 2) (binF ixD (varF 1) (varF 6))) nilA))))) (retF (shF (.bl false))) nxF)))
    (retF (shF (.bl true))))))
noncomputable def f_form_is_kept : Fn := runF 2 8 g_form_is_kept
noncomputable def g__law_hand : FS :=
  (seqF (setF 1 (compF true [2] (seqI (slF (varF 0) noP (partF (shF (.int 63))))) (gnF 2) yesT (clF absD (consA (clF intD (consA (varF 2) nilA)) nilA))))
    (retF (lstF (consA (varF 1) (consA (shF (.int 0)) (consA (shF (.int 0)) (consA (binF addD (shF (.int 181)) (binF mulD (shF (.int 5)) (clF lenD (consA (varF 1) nilA)))) (consA (shF (.int 0)) nilA))))))))
noncomputable def f__law_hand : Fn := runF 1 3 g__law_hand
noncomputable def g__law_draw : FS :=
  (seqF (ifS (andT (cmpT eqD (binF ixD (varF 0) (shF (.int 2))) (shF (.int 0))) (cmpT (cm2 fun i j => decide (i < j)) (binF ixD (varF 0) (shF (.int 1))) (clF lenD (consA (binF ixD (varF 0) (shF (.int 0))) nilA)))) (seqF (setF 3 (binF ixD (binF ixD (varF 0) (shF (.int 0))) (binF ixD (varF 0) (shF (.int 1)))))
    (seqF (setIxF 0 (shF (.int 1)) (binF addD (binF ixD (varF 0) (shF (.int 1))) (shF (.int 1))))
    (seqF (setIxF 0 (shF (.int 3)) (binF modD (clF intD (consA (binF addD (binF addD (binF mulD (binF ixD (varF 0) (shF (.int 3))) (shF (.int 69621))) (binF mulD (varF 3) (shF (.int 40692)))) (shF (.int 37))) nilA)) (shF (.int 2147483629))))
    (ifS (cmpT (cm2 fun i j => decide (j ≤ i)) (varF 3) (binF powD (shF (.int 10)) (shF (.int 18)))) (setIxF 0 (shF (.int 2)) (varF 3)) nxF)))) nxF)
    (seqF (ifS (cmpT (cm2 fun i j => decide (j < i)) (binF ixD (varF 0) (shF (.int 2))) (shF (.int 0))) (seqF (setF 4 (binF modD (clF intD (consA (binF ixD (varF 0) (shF (.int 2))) nilA)) (varF 1)))
    (seqF (setIxF 0 (shF (.int 2)) (binF fdivD (binF ixD (varF 0) (shF (.int 2))) (varF 1)))
    (retF (varF 4)))) nxF)
    (seqF (setIxF 0 (shF (.int 4)) (binF addD (binF ixD (varF 0) (shF (.int 4))) (shF (.int 1))))
    (seqF (setF 2 (binF modD (clF intD (consA (binF mulD (clF intD (consA (binF addD (binF ixD (varF 0) (shF (.int 3))) (binF mulD (shF (.int 7919)) (binF ixD (varF 0) (shF (.int 4))))) nilA)) (shF (.int 48271))) nilA)) (shF (.int 2147483647))))
    (seqF (setF 2 (binF modD (clF intD (consA (binF mulD (varF 2) (binF addD (binF fdivD (varF 2) (shF (.int 1009))) (shF (.int 69621)))) nilA)) (shF (.int 2147483647))))
    (seqF (setF 2 (binF modD (clF intD (consA (binF mulD (varF 2) (binF addD (binF fdivD (varF 2) (shF (.int 2003))) (shF (.int 40014)))) nilA)) (shF (.int 2147483563))))
    (retF (binF modD (clF intD (consA (binF fdivD (varF 2) (shF (.int 16))) nilA)) (varF 1)))))))))
noncomputable def f__law_draw : Fi := runI 2 5 g__law_draw
noncomputable def g__law_any : FS :=
  (retF (binF ixD (varF 1) (ioF 0 f__law_draw (consA (clF lenD (consA (varF 1) nilA)) nilA))))
noncomputable def f__law_any : Fi := runI 2 2 g__law_any
noncomputable def g__law_mixed : FS :=
  (seqF (parF 2 3 (clF listD (consA (varF 1) nilA)) (lstF nilA))
    (seqF (whileF (cmpT (cm2 fun i j => decide (j < i)) (clF lenD (consA (varF 2) nilA)) (shF (.int 0))) (exprF (mtF 3 appM (consA (mtF 2 popM (consA (ioF 0 f__law_draw (consA (clF lenD (consA (varF 2) nilA)) nilA)) nilA)) nilA))))
    (retF (varF 3))))
noncomputable def f__law_mixed : Fi := runI 2 4 g__law_mixed
noncomputable def g__law_arrows : FS :=
  (seqF (parF 2 3 (ioF 0 f__law_mixed (consA (unF lrgD (varF 1)) nilA)) (lstF nilA))
    (seqF (ifS (andT (cmpT (cm2 fun i j => decide (j < i)) (varF 1) (shF (.int 1))) (cmpT eqD (ioF 0 f__law_draw (consA (shF (.int 2)) nilA)) (shF (.int 0)))) (seqF (forF (rg2I (consA (shF (.int 1)) (consA (varF 1) nilA))) (gnF 5) (seqF (setF 7 (tupF (consA (binF ixD (varF 2) (varF 5)) (consA (binF ixD (varF 2) (ioF 0 f__law_draw (consA (varF 5) nilA))) nilA))))
    (exprF (mtF 3 appM (consA (ifF (cmpT eqD (ioF 0 f__law_draw (consA (shF (.int 2)) nilA)) (shF (.int 0))) (varF 7) (unF revD (varF 7))) nilA)))))
    (retF (clF tupleD (consA (ioF 0 f__law_mixed (consA (varF 3) nilA)) nilA)))) nxF)
    (seqF (forF (rg1I (consA (ifF (cmpT (cm2 fun i j => decide (j < i)) (varF 1) (shF (.int 1))) (ioF 0 f__law_any (consA (lstF (consA (shF (.int 0)) (consA (shF (.int 1)) (consA (varF 1) (consA (shF (.int 5)) nilA))))) nilA)) (shF (.int 0))) nilA)) (gnF 4) (seqF (setF 6 (ioF 0 f__law_draw (consA (binF subD (varF 1) (shF (.int 1))) nilA)))
    (exprF (mtF 3 appM (consA (tupF (consA (binF ixD (varF 2) (varF 6)) (consA (binF ixD (varF 2) (binF addD (binF addD (varF 6) (shF (.int 1))) (ioF 0 f__law_draw (consA (binF subD (binF subD (varF 1) (shF (.int 1))) (varF 6)) nilA)))) nilA))) nilA)))))
    (retF (clF tupleD (consA (varF 3) nilA))))))
noncomputable def f__law_arrows : Fi := runI 2 8 g__law_arrows
noncomputable def g__law_orders : FS :=
  (seqF (setF 1 (lstF (consA (tupF nilA) nilA)))
    (seqF (forF (rg1I (consA (varF 0) nilA)) (gnF 2) (seqF (setF 3 (lstF nilA))
    (seqF (forF (seqI (varF 1)) (gnF 4) (exprF (mtF 3 extM (consA (compF true [5] (rg1I (consA (binF addD (clF lenD (consA (varF 4) nilA)) (shF (.int 1))) nilA)) (gnF 5) yesT (binF addD (binF addD (slF (varF 4) noP (partF (varF 5))) (tupF (consA (varF 2) nilA))) (slF (varF 4) (partF (varF 5)) noP))) nilA))))
    (setF 1 (varF 3)))))
    (retF (clF sortD (consA (varF 1) nilA)))))
noncomputable def f__law_orders : Fn := runF 1 6 g__law_orders
noncomputable def g__law_called : FS :=
  (retF (clF tupleD (consA (clF sortD (consA (compF true [2, 3] (seqI (varF 0)) (gtF (gconsF (gnF 2) (gconsF (gnF 3) gnilF))) yesT (tupF (consA (binF ixD (varF 1) (varF 2)) (consA (binF ixD (varF 1) (varF 3)) nilA)))) nilA)) nilA)))
noncomputable def f__law_called : Fn := runF 2 4 g__law_called
noncomputable def g__law_shape_orders : FS :=
  (retF (compF true [3] (seqI (caF f__law_orders (consA (varF 0) nilA))) (gnF 3) (cmpT eqD (caF f__law_called (consA (varF 1) (consA (varF 3) nilA))) (clF tupleD (consA (clF sortD (consA (varF 2) nilA)) nilA))) (varF 3)))
noncomputable def f__law_shape_orders : Fn := runF 3 4 g__law_shape_orders
noncomputable def g__law_turned : FS :=
  (retF (clF tupleD (consA (clF sortD (consA (compF true [2] (seqI (varF 0)) (gnF 2) yesT (ifF (cmpT (inD false) (varF 1) (varF 2)) (unF revD (varF 2)) (varF 2))) nilA)) nilA)))
noncomputable def f__law_turned : Fn := runF 2 3 g__law_turned
noncomputable def g__law_shapes : FS :=
  (seqF (parF 2 3 (lstF (consA (clF tupleD (consA (clF sortD (consA (varF 1) nilA)) nilA)) nilA)) (shF (.int 0)))
    (seqF (whileF (andT (cmpT (cm2 fun i j => decide (i < j)) (varF 3) (clF lenD (consA (varF 2) nilA))) (cmpT (cm2 fun i j => decide (i < j)) (clF lenD (consA (varF 2) nilA)) (shF (.int 401)))) (seqF (forF (rg1I (consA (varF 0) nilA)) (gnF 4) (ifS (notT (truF (clF anyD (consA (compF true [6, 7] (seqI (binF ixD (varF 2) (varF 3))) (gtF (gconsF (gnF 6) (gconsF (gnF 7) gnilF))) yesT (binF (oBl eqD) (varF 6) (varF 4))) nilA)))) (seqF (setF 5 (caF f__law_turned (consA (binF ixD (varF 2) (varF 3)) (consA (varF 4) nilA))))
    (ifS (cmpT (inD true) (varF 5) (varF 2)) (exprF (mtF 2 appM (consA (varF 5) nilA))) nxF)) nxF))
    (setF 3 (binF addD (varF 3) (shF (.int 1))))))
    (retF (varF 2))))
noncomputable def f__law_shapes : Fn := runF 2 8 g__law_shapes
noncomputable def g__law_judged_right : FS :=
  (seqF (setF 5 (ioF 0 f__law_any (consA (varF 4) nilA)))
    (seqF (setF 6 (ioF 0 f__law_draw (consA (varF 3) nilA)))
    (seqF (setF 7 (ioF 0 f__law_any (consA (lstF (consA (varF 3) (consA (negF (shF (.int 1))) (consA (shF .non) (consA (shF (.bl true)) (consA (shF (.str "0")) (consA (lstF (consA (shF (.int 0)) nilA)) (consA (shF (.int 0)) (consA (shF (.int 1)) nilA))))))))) nilA)))
    (seqF (setF 8 (lstF (consA (varF 5) (consA (clF tupleD (consA (ioF 0 f__law_mixed (consA (clF listD (consA (varF 5) nilA)) nilA)) nilA)) (consA (unF revD (varF 5)) (consA (clF listD (consA (varF 5) nilA)) (consA (slF (varF 5) (partF (shF (.int 1))) noP) (consA (binF addD (varF 5) (tupF (consA (varF 3) nilA))) (consA (shF .non) nilA)))))))))
    (seqF (setF 8 (binF addD (varF 8) (lstF (consA (binF addD (binF addD (slF (varF 5) noP (partF (varF 6))) (tupF (consA (varF 7) nilA))) (slF (varF 5) (partF (binF addD (varF 6) (shF (.int 1)))) noP)) (consA (shF (.int 0)) (consA dctF (consA (shF (.str "0")) (consA (tupF (consA (varF 5) nilA)) (consA (binF mulD (tupF (consA (lstF (consA (shF (.int 0)) nilA)) nilA)) (varF 3)) nilA)))))))))
    (seqF (forF (seqI (varF 8)) (gnF 9) (seqF (setF 10 (caF f_is_shape_order (consA (varF 1) (consA (varF 2) (consA (varF 9) nilA)))))
    (seqF (setF 11 (andF (unF (isiD "tuple") (varF 9)) (binF (oBl (inD false)) (clF reprD (consA (varF 9) nilA)) (compF true [12] (seqI (varF 4)) (gnF 12) yesT (clF reprD (consA (varF 12) nilA))))))
    (ifS (orT (notT (truF (unF (isiD "bool") (varF 10)))) (cmpT neD (varF 10) (varF 11))) (retF (shF (.bl false))) nxF))))
    (retF (shF (.bl true)))))))))
noncomputable def f__law_judged_right : Fi := runI 5 13 g__law_judged_right
noncomputable def g__law_orders_right : FS :=
  (seqF (parF 3 4 (mkF 0 f_Web___init__ (consA (varF 1) (consA (varF 2) nilA))) (clF tupleD (consA (ioF 0 f__law_mixed (consA (unF lrgD (varF 1)) nilA)) nilA)))
    (seqF (setF 5 (caF f__law_called (consA (varF 2) (consA (varF 4) nilA))))
    (seqF (ifS (cmpT (neIns 0 2) (caF f_with_places (consA (varF 3) (consA (varF 4) nilA))) (mkF 0 f_Web___init__ (consA (varF 1) (consA (varF 5) nilA)))) (retF (shF (.bl false))) nxF)
    (seqF (setF 6 (mkF 0 f_Web___init__ (consA (varF 1) (consA (clF tupleD (consA (ioF 0 f__law_mixed (consA (clF listD (consA (varF 5) nilA)) nilA)) nilA)) nilA))))
    (seqF (parF 7 8 (caF f__law_shape_orders (consA (varF 1) (consA (varF 2) (consA (varF 5) nilA)))) (caF f__law_shape_orders (consA (varF 1) (consA (varF 2) (consA (varF 2) nilA)))))
    (seqF (ifS (orT (cmpT neD (caF f_shape_order (consA (varF 3) (consA (varF 6) nilA))) (binF ixD (varF 7) (shF (.int 0)))) (orT (cmpT neD (caF f_own_orders (consA (varF 3) nilA)) (varF 8)) (cmpT neD (clF lenD (consA (varF 7) nilA)) (clF lenD (consA (varF 8) nilA))))) (retF (shF (.bl false))) nxF)
    (seqF (ifS (orT (cmpT (inD true) (clF tupleD (consA (unF lrgD (varF 1)) nilA)) (varF 8)) (cmpT neD (clF lenD (consA (caF f_own_orders (consA (varF 6) nilA)) nilA)) (clF lenD (consA (varF 8) nilA)))) (retF (shF (.bl false))) nxF)
    (retF (andF (clF allD (consA (compF true [9] (seqI (slF (varF 8) noP (partF (shF (.int 3))))) (gnF 9) yesT (binF (oBl (isD false)) (caF f_form_is_kept (consA (varF 3) (consA (varF 9) nilA))) (shF (.bl true)))) nilA)) (ioF 0 f__law_judged_right (consA (varF 3) (consA (varF 6) (consA (varF 1) (consA (varF 7) nilA))))))))))))))
noncomputable def f__law_orders_right : Fi := runI 3 10 g__law_orders_right
noncomputable def g__law_less : FS :=
  (seqF (setF 2 (binF addD (binF addD (slF (varF 0) noP (partF (varF 1))) (lstF (consA (unF revD (binF ixD (varF 0) (varF 1))) nilA))) (slF (varF 0) (partF (binF addD (varF 1) (shF (.int 1)))) noP)))
    (seqF (parF 3 4 (unF sosD (unF sumLD (compF true [7] (seqI (varF 2)) (gnF 7) yesT (clF listD (consA (varF 7) nilA))))) (shF (.bl true)))
    (seqF (whileF (truF (varF 4)) (seqF (setF 5 (compF true [6] (seqI (varF 3)) (gnF 6) (notT (truF (clF anyD (consA (compF true [8, 9] (seqI (varF 2)) (gtF (gconsF (gnF 8) (gconsF (gnF 9) gnilF))) (cmpT eqD (varF 9) (varF 6)) (binF (oBl (inD false)) (varF 8) (varF 3))) nilA)))) (varF 6)))
    (seqF (setF 3 (compF true [6] (seqI (varF 3)) (gnF 6) (cmpT (inD true) (varF 6) (varF 5)) (varF 6)))
    (setF 4 (binF (oBl (cm2 fun i j => decide (j < i))) (clF lenD (consA (varF 5) nilA)) (shF (.int 0)))))))
    (retF (ifF (cmpT eqD (clF lenD (consA (varF 3) nilA)) (shF (.int 0))) (varF 2) (varF 0))))))
noncomputable def f__law_less : Fn := runF 2 10 g__law_less
noncomputable def g__law_others_right : FS :=
  (seqF (parF 3 4 (mkF 0 f_Web___init__ (consA (varF 1) (consA (varF 2) nilA))) (clF listD (consA (varF 2) nilA)))
    (seqF (ifS (cmpT (cm2 fun i j => decide (j < i)) (clF lenD (consA (varF 4) nilA)) (shF (.int 0))) (seqF (setF 7 (ioF 0 f__law_draw (consA (clF lenD (consA (varF 4) nilA)) nilA)))
    (setF 4 (ioF 0 f__law_any (consA (lstF (consA (binF addD (slF (varF 4) noP (partF (varF 7))) (slF (varF 4) (partF (binF addD (varF 7) (shF (.int 1)))) noP)) (consA (binF addD (varF 4) (lstF (consA (binF ixD (varF 4) (varF 7)) nilA))) (consA (caF f__law_less (consA (varF 4) (consA (varF 7) nilA))) nilA)))) nilA)))) nxF)
    (seqF (setF 5 (binF ixD (binF addD (caF f__law_shape_orders (consA (varF 1) (consA (varF 2) (consA (varF 4) nilA)))) (lstF (consA (shF .non) nilA))) (shF (.int 0))))
    (seqF (ifS (cmpT neD (caF f_shape_order (consA (varF 3) (consA (mkF 0 f_Web___init__ (consA (varF 1) (consA (clF tupleD (consA (varF 4) nilA)) nilA))) nilA))) (varF 5)) (retF (shF (.bl false))) nxF)
    (seqF (setF 6 (mkF 0 f_Web___init__ (consA (binF addD (varF 1) (shF (.int 1))) (consA (varF 2) nilA))))
    (retF (andF (binF (oBl (isD false)) (caF f_shape_order (consA (varF 3) (consA (varF 6) nilA))) (shF .non)) (binF (oBl (isD false)) (caF f_is_shape_order (consA (varF 3) (consA (varF 6) (consA (clF tupleD (consA (unF lrgD (varF 1)) nilA)) nilA)))) (shF (.bl false))))))))))
noncomputable def f__law_others_right : Fi := runI 3 8 g__law_others_right
noncomputable def g__law_turns_right : FS :=
  (seqF (setF 2 (caF f__law_shapes (consA (varF 0) (consA (varF 1) nilA))))
    (seqF (setF 3 (caF f_turned_shapes (consA (mkF 0 f_Web___init__ (consA (varF 0) (consA (varF 1) nilA))) nilA)))
    (seqF (ifS (orT (notT (truF (unF (isiD "list") (varF 3)))) (cmpT neD (compF true [4] (seqI (varF 3)) (gnF 4) yesT (tupF (consA (unF (fldD 0 0) (varF 4)) (consA (unF (fldD 0 1) (varF 4)) nilA)))) (compF true [5] (seqI (varF 2)) (gnF 5) yesT (tupF (consA (varF 0) (consA (varF 5) nilA)))))) (retF (shF (.bl false))) nxF)
    (retF (orF (binF (oBl (cm2 fun i j => decide (j < i))) (clF lenD (consA (varF 2) nilA)) (shF (.int 24))) (binF (oBl eqD) (clF sortD (consA (compF true [4] (seqI (caF f_turned_shapes (consA (binF ixD (varF 3) (negF (shF (.int 1)))) nilA))) (gnF 4) yesT (unF (fldD 0 1) (varF 4))) nilA)) (clF sortD (consA (varF 2) nilA))))))))
noncomputable def f__law_turns_right : Fn := runF 2 6 g__law_turns_right
noncomputable def g_law : FS :=
  (seqF (setF 1 (caF f__law_hand (consA (varF 0) nilA)))
    (seqF (setF 2 (mkF 0 f_Web___init__ (consA (shF (.int 3)) (consA (tupF (consA (tupF (consA (shF (.int 0)) (consA (shF (.int 1)) nilA))) (consA (tupF (consA (shF (.int 1)) (consA (shF (.int 2)) nilA))) nilA))) nilA))))
    (seqF (ifS (orT (cmpT neD (caF f_shape_order (consA (varF 2) (consA (mkF 0 f_Web___init__ (consA (shF (.int 3)) (consA (tupF (consA (tupF (consA (shF (.int 2)) (consA (shF (.int 1)) nilA))) (consA (tupF (consA (shF (.int 1)) (consA (shF (.int 0)) nilA))) nilA))) nilA))) nilA))) (tupF (consA (shF (.int 2)) (consA (shF (.int 1)) (consA (shF (.int 0)) nilA))))) (cmpT neD (caF f_own_orders (consA (varF 2) nilA)) (lstF (consA (tupF (consA (shF (.int 0)) (consA (shF (.int 1)) (consA (shF (.int 2)) nilA)))) nilA)))) (retF (shF (.bl false))) nxF)
    (seqF (ifS (orT (cmpT neD (clF lenD (consA (caF f_turned_shapes (consA (varF 2) nilA)) nilA)) (shF (.int 4))) (cmpT neD (caF f_own_orders (consA (mkF 0 f_Web___init__ (consA (shF (.int 3)) (consA (tupF (consA (tupF (consA (shF (.int 0)) (consA (shF (.int 1)) nilA))) (consA (tupF (consA (shF (.int 0)) (consA (shF (.int 2)) nilA))) nilA))) nilA))) nilA)) (lstF (consA (tupF (consA (shF (.int 0)) (consA (shF (.int 1)) (consA (shF (.int 2)) nilA)))) (consA (tupF (consA (shF (.int 0)) (consA (shF (.int 2)) (consA (shF (.int 1)) nilA)))) nilA))))) (retF (shF (.bl false))) nxF)
    (seqF (forF (rg1I (consA (shF (.int 3)) nilA)) (gnF 3) (seqF (setF 4 (binF addD (shF (.int 1)) (ioF 1 f__law_draw (consA (shF (.int 4)) nilA))))
    (seqF (setF 5 (ioF 1 f__law_arrows (consA (varF 4) nilA)))
    (seqF (ifS (orT (notT (truF (ioF 1 f__law_orders_right (consA (varF 4) (consA (varF 5) nilA))))) (notT (truF (ioF 1 f__law_others_right (consA (varF 4) (consA (varF 5) nilA)))))) (retF (shF (.bl false))) nxF)
    (ifS (notT (truF (caF f__law_turns_right (consA (varF 4) (consA (varF 5) nilA))))) (retF (shF (.bl false))) nxF)))))
    (retF (shF (.bl true))))))))
noncomputable def f_law : Fn := runF 1 6 g_law
structure Mg (mg : Str → Option Value) : Prop where
  abs : mg "abs" = none
  all : mg "all" = none
  any : mg "any" = none
  bool : mg "bool" = none
  enumerate : mg "enumerate" = none
  int : mg "int" = none
  isinstance : mg "isinstance" = none
  len : mg "len" = none
  list : mg "list" = none
  range : mg "range" = none
  repr : mg "repr" = none
  set : mg "set" = none
  sorted : mg "sorted" = none
  sum : mg "sum" = none
  tuple : mg "tuple" = none
  zip : mg "zip" = none
  MOST_PLACES : ∃ t, mg "MOST_PLACES" = some (.int 8 t)
  MOST_ARROWS : ∃ t, mg "MOST_ARROWS" = some (.int 14 t)
  MOST_ORDERS : ∃ t, mg "MOST_ORDERS" = some (.int 5040 t)
theorem boot_abs : bootBuiltins "abs" = some (.builtin "abs") := by decide +kernel
theorem boot_all : bootBuiltins "all" = some (.builtin "all") := by decide +kernel
theorem boot_any : bootBuiltins "any" = some (.builtin "any") := by decide +kernel
theorem boot_bool : bootBuiltins "bool" = some (.type "bool") := by decide +kernel
theorem boot_int : bootBuiltins "int" = some (.type "int") := by decide +kernel
theorem boot_len : bootBuiltins "len" = some (.builtin "len") := by decide +kernel
theorem boot_list : bootBuiltins "list" = some (.type "list") := by decide +kernel
theorem boot_repr : bootBuiltins "repr" = some (.builtin "repr") := by decide +kernel
theorem boot_sorted : bootBuiltins "sorted" = some (.builtin "sorted") := by decide +kernel
theorem boot_sum : bootBuiltins "sum" = some (.builtin "sum") := by decide +kernel
theorem boot_tuple : bootBuiltins "tuple" = some (.type "tuple") := by decide +kernel
structure Wf (K : PySem.W.Frag) (mg : Str → Option Value) (Cw : Addr) : Prop where
  cls : Cls K Cw
  isc : C8.InsC K Cw
  no_places : NoAttr K Cw "places"
  no_arrows : NoAttr K Cw "arrows"
  glo_Web : mg "Web" = some (.ref Cw)
section
variable {P : Program} {w : World} {K : PySem.W.Frag} {mg : Str → Option Value} {base : Heap} {c : Tc} {Cw : Addr}
abbrev s_is_integer : Stmt := top 1
abbrev N_is_integer : List Str := ["thing"]
theorem sc_is_integer : FnScope N_is_integer ["thing"] (defScope s_is_integer) := ⟨rfl, rfl, rfl, by decide +kernel, rfl, by decide +kernel, by decide +kernel⟩
theorem d_is_integer (M : Mg mg) (W : Wf K mg Cw) (hc : ∀ k, c.ct k = (Cw, nms_Web)) {f : Addr} {cdv : Value} {A : Around} {outer : List Env} {s : Shared} {H : Hp} {E : XK} (C : Cxt (cxOf (L2.CX P w) P w K mg base N_is_integer "is_integer" (defScope s_is_integer) f cdv A outer s H E) E 0) :
    SSs (cxOf (L2.CX P w) P w K mg base N_is_integer "is_integer" (defScope s_is_integer) f cdv A outer s H E) c E (defBody s_is_integer) g_is_integer :=
  (sss_one (ss_ret (se_and (se_isi (se_var 0) boot_int M.isinstance M.int) (se_one (se_not (se_isi (se_var 0) boot_bool M.isinstance M.bool))))))
end
section
variable {P : Program} {w : World} {K : PySem.W.Frag} {mg : Str → Option Value} {base : Heap} {c : Tc} {Cw : Addr}
abbrev s_is_within : Stmt := top 2
abbrev N_is_within : List Str := ["thing", "least", "most"]
theorem sc_is_within : FnScope N_is_within ["thing", "least", "most"] (defScope s_is_within) := ⟨rfl, rfl, rfl, by decide +kernel, rfl, by decide +kernel, by decide +kernel⟩
theorem d_is_within (M : Mg mg) (W : Wf K mg Cw) (hc : ∀ k, c.ct k = (Cw, nms_Web)) (F_is_integer : Fnd P w K mg base 1 "is_integer" (spP ⟨K, c.ct, c.xc⟩ f_is_integer)) {f : Addr} {cdv : Value} {A : Around} {outer : List Env} {s : Shared} {H : Hp} {E : XK} (C : Cxt (cxOf (L2.CX P w) P w K mg base N_is_within "is_within" (defScope s_is_within) f cdv A outer s H E) E 1) :
    SSs (cxOf (L2.CX P w) P w K mg base N_is_within "is_within" (defScope s_is_within) f cdv A outer s H E) c E (defBody s_is_within) g_is_within :=
  (sss_one (ss_ret (se_and (se_call F_is_integer C.room C.gd C.pass (sa_cons (se_var 0) sa_nil)) (se_one (se_ch ev_le ev_le (se_var 1) (se_var 0) (se_var 2))))))
end
section
variable {P : Program} {w : World} {K : PySem.W.Frag} {mg : Str → Option Value} {base : Heap} {c : Tc} {Cw : Addr}
abbrev s_is_tuple : Stmt := top 3
abbrev N_is_tuple : List Str := ["thing", "least", "most"]
theorem sc_is_tuple : FnScope N_is_tuple ["thing", "least", "most"] (defScope s_is_tuple) := ⟨rfl, rfl, rfl, by decide +kernel, rfl, by decide +kernel, by decide +kernel⟩
theorem d_is_tuple (M : Mg mg) (W : Wf K mg Cw) (hc : ∀ k, c.ct k = (Cw, nms_Web)) {f : Addr} {cdv : Value} {A : Around} {outer : List Env} {s : Shared} {H : Hp} {E : XK} (C : Cxt (cxOf (L2.CX P w) P w K mg base N_is_tuple "is_tuple" (defScope s_is_tuple) f cdv A outer s H E) E 0) :
    SSs (cxOf (L2.CX P w) P w K mg base N_is_tuple "is_tuple" (defScope s_is_tuple) f cdv A outer s H E) c E (defBody s_is_tuple) g_is_tuple :=
  (sss_one (ss_ret (se_and (se_isi (se_var 0) boot_tuple M.isinstance M.tuple) (se_one (se_ch ev_le ev_le (se_var 1) (se_callB ev_len boot_len M.len (sa_cons (se_var 0) sa_nil)) (se_var 2))))))
end
section
variable {P : Program} {w : World} {K : PySem.W.Frag} {mg : Str → Option Value} {base : Heap} {c : Tc} {Cw : Addr}
abbrev s_is_row : Stmt := top 4
abbrev N_is_row : List Str := ["thing", "many", "least", "most", "one"]
theorem sc_is_row : FnScope N_is_row ["thing", "many", "least", "most"] (defScope s_is_row) := ⟨rfl, rfl, rfl, by decide +kernel, rfl, by decide +kernel, by decide +kernel⟩
theorem d_is_row (M : Mg mg) (W : Wf K mg Cw) (hc : ∀ k, c.ct k = (Cw, nms_Web)) (F_is_tuple : Fnd P w K mg base 2 "is_tuple" (spP ⟨K, c.ct, c.xc⟩ f_is_tuple)) (F_is_within : Fnd P w K mg base 2 "is_within" (spP ⟨K, c.ct, c.xc⟩ f_is_within)) {f : Addr} {cdv : Value} {A : Around} {outer : List Env} {s : Shared} {H : Hp} {E : XK} (C : Cxt (cxOf (L2.CX P w) P w K mg base N_is_row "is_row" (defScope s_is_row) f cdv A outer s H E) E 2) :
    SSs (cxOf (L2.CX P w) P w K mg base N_is_row "is_row" (defScope s_is_row) f cdv A outer s H E) c E (defBody s_is_row) g_is_row :=
  (sss_one (ss_ret (se_and (se_call F_is_tuple C.room C.gd C.pass (sa_cons (se_var 0) (sa_cons (se_var 1) (sa_cons (se_var 1) sa_nil)))) (se_one (se_callB (ev_all C.calm) boot_all M.all (sa_cons (se_lc C.calm C.nd (blkOk_by (own := [("one", 4)]) (by kernel_rfl)) (si_seq (se_var 0)) (by decide) (fun _ _ _ _ _ => (sg_name (i := 4) (Cxt.blk C).nd)) (fun _ _ _ _ _ => sif_nil) (fun _ _ _ _ _ => (se_call F_is_within (Cxt.blk C).room (Cxt.blk C).gd (Cxt.blk C).pass (sa_cons (se_var 4) (sa_cons (se_var 2) (sa_cons (se_var 3) sa_nil)))))) sa_nil))))))
end
section
variable {P : Program} {w : World} {K : PySem.W.Frag} {mg : Str → Option Value} {base : Heap} {c : Tc} {Cw : Addr}
abbrev s_Web_order_from : Stmt := mem 12 2
abbrev N_Web_order_from : List Str := ["self", "left", "found", "ready", "place", "a", "b"]
theorem sc_Web_order_from : FnScope N_Web_order_from ["self"] (defScope s_Web_order_from) := ⟨rfl, rfl, rfl, by decide +kernel, rfl, by decide +kernel, by decide +kernel⟩
theorem d_Web_order_from (M : Mg mg) (W : Wf K mg Cw) (hc : ∀ k, c.ct k = (Cw, nms_Web)) {f : Addr} {cdv : Value} {A : Around} {outer : List Env} {s : Shared} {H : Hp} {E : XK} (C : Cxt (cxOf (L2.CX P w) P w K mg base N_Web_order_from "Web.order_from" (defScope s_Web_order_from) f cdv A outer s H E) E 0) :
    SSs (cxOf (L2.CX P w) P w K mg base N_Web_order_from "Web.order_from" (defScope s_Web_order_from) f cdv A outer s H E) c E (defBody s_Web_order_from) g_Web_order_from :=
  (sss_cons (ss_parT (i := 1) (j := 2) C.calm C.nd (se_listRg C.calm (se_fld (se_var 0) W.cls W.no_places (hc _) (by decide +kernel)) M.list M.range) (se_lst sa_nil))
    (sss_cons (ss_while own_pass (st_cmp ev_gt (se_callB ev_len boot_len M.len (sa_cons (se_var 1) sa_nil)) se_int) (sss_cons (ss_setLc (i := 3) C.calm C.nd (blkOk_by (own := [("place", 4)]) (by kernel_rfl)) (si_seq (se_var 1)) (by decide) (fun _ _ _ _ _ => (sg_name (i := 4) (Cxt.blk C).nd)) (fun _ _ _ _ _ => (sif_one (st_not (st_val (se_callB (ev_any (Cxt.blk C).calm) boot_any M.any (sa_cons (se_lc (Cxt.blk C).calm (Cxt.blk C).nd (blkOk_by (own := [("a", 5), ("b", 6)]) (by kernel_rfl)) (si_seq (se_fld (se_var 0) W.cls W.no_arrows (hc _) (by decide +kernel))) (by decide) (fun _ _ _ _ _ => (sg_tup (Cxt.blk (Cxt.blk C)).calm (sgs_cons (sg_name (i := 5) (Cxt.blk (Cxt.blk C)).nd) (sgs_cons (sg_name (i := 6) (Cxt.blk (Cxt.blk C)).nd) sgs_nil)))) (fun _ _ _ _ _ => sif_nil) (fun _ _ _ _ _ => (se_and (se_cmpB (ev_eq (Cxt.blk (Cxt.blk C)).room) (se_var 6) (se_var 4)) (se_one (se_cmpB (ev_in (Cxt.blk (Cxt.blk C)).room) (se_var 5) (se_var 1)))))) sa_nil)))))) (fun _ _ _ _ _ => (se_var 4)) (by kernel_rfl))
    (sss_cons (ss_if (st_cmp (ev_eq C.room) (se_callB ev_len boot_len M.len (sa_cons (se_var 3) sa_nil)) se_int) (sss_one (ss_ret se_non)) sss_nil)
    (sss_cons (ss_expr (se_mt PySem.F.slot_list_append PySem.F.type_list_append em_append (sa_cons (se_ix (se_var 3) se_int) sa_nil) (var_pe (i := 2))))
    (sss_one (ss_expr (se_mt PySem.F.slot_list_remove PySem.F.type_list_remove em_remove (sa_cons (se_ix (se_var 3) se_int) sa_nil) (var_pe (i := 1)))))))))
    (sss_one (ss_ret (se_var 2)))))
end
section
variable {P : Program} {w : World} {K : PySem.W.Frag} {mg : Str → Option Value} {base : Heap} {c : Tc} {Cw : Addr}
abbrev s_Web___init__ : Stmt := mem 12 0
abbrev N_Web___init__ : List Str := ["self", "places", "arrows", "number", "arrow"]
theorem sc_Web___init__ : FnScope N_Web___init__ ["self", "places", "arrows"] (defScope s_Web___init__) := ⟨rfl, rfl, rfl, by decide +kernel, rfl, by decide +kernel, by decide +kernel⟩
theorem d_Web___init__ (M : Mg mg) (W : Wf K mg Cw) (hc : ∀ k, c.ct k = (Cw, nms_Web)) (F_is_row : Fnd P w K mg base 3 "is_row" (spP ⟨K, c.ct, c.xc⟩ f_is_row)) (F_is_tuple : Fnd P w K mg base 3 "is_tuple" (spP ⟨K, c.ct, c.xc⟩ f_is_tuple)) (F_is_within : Fnd P w K mg base 3 "is_within" (spP ⟨K, c.ct, c.xc⟩ f_is_within)) {fm_Web_order_from : Addr} {fdm_Web_order_from : FuncData} {psm_Web_order_from : List Str} (Me_Web_order_from : Meth K Cw "order_from" fm_Web_order_from) (F_Web_order_from : FnG P w K mg base (L2.CX P w) 3 fm_Web_order_from fdm_Web_order_from psm_Web_order_from (spP ⟨K, c.ct, c.xc⟩ f_Web_order_from)) (B_Web_order_from : Binds K fdm_Web_order_from psm_Web_order_from []) {f : Addr} {cdv : Value} {A : Around} {outer : List Env} {s : Shared} {H : Hp} {E : XK} (C : Cxt (cxOf (L2.CX P w) P w K mg base N_Web___init__ "Web.__init__" (defScope s_Web___init__) f cdv A outer s H E) E 3) :
    SSs (cxOf (L2.CX P w) P w K mg base N_Web___init__ "Web.__init__" (defScope s_Web___init__) f cdv A outer s H E) c E (defBody s_Web___init__) g_Web___init__ :=
  (sss_cons (ss_if (st_not (st_val (se_call F_is_within C.room C.gd C.pass (sa_cons (se_var 1) (sa_cons se_int (sa_cons (se_gint M.MOST_PLACES.choose_spec) sa_nil)))))) (sss_one ss_never) sss_nil)
    (sss_cons (ss_if (st_not (st_val (se_call F_is_tuple C.room C.gd C.pass (sa_cons (se_var 2) (sa_cons se_int (sa_cons (se_gint M.MOST_ARROWS.choose_spec) sa_nil)))))) (sss_one ss_never) sss_nil)
    (sss_cons (ss_for own_pass C.calm (si_enum M.enumerate (sa_cons (se_var 2) sa_nil)) (sg_tup C.calm (sgs_cons (sg_name (i := 3) C.nd) (sgs_cons (sg_name (i := 4) C.nd) sgs_nil))) (sss_one (ss_if (SW.st (sw_or (st_not (st_val (se_call F_is_row C.room C.gd C.pass (sa_cons (se_var 4) (sa_cons se_int (sa_cons se_int (sa_cons (se_bin ev_sub (se_var 1) se_int) sa_nil))))))) (sw_or1 (st_cmp (ev_eq C.room) (se_ix (se_var 4) se_int) (se_ix (se_var 4) se_int))))) (sss_one ss_never) sss_nil)))
    (sss_cons (ss_setFld (se_var 1) (var_pe (i := 0)) (fun k => by rw [hc]; exact W.cls) (fun k => by rw [hc]; exact W.no_places))
    (sss_cons (ss_setFld (se_var 2) (var_pe (i := 0)) (fun k => by rw [hc]; exact W.cls) (fun k => by rw [hc]; exact W.no_arrows))
    (sss_one (ss_if (st_cmp ev_is (se_meS (hc _) W.cls Me_Web_order_from F_Web_order_from B_Web_order_from (C.room.mono (by decide)) C.gd C.pass (var_pe (i := 0)) (by decide +kernel)) se_non) (sss_one ss_never) sss_nil)))))))
end
section
variable {P : Program} {w : World} {K : PySem.W.Frag} {mg : Str → Option Value} {base : Heap} {c : Tc} {Cw : Addr}
abbrev s_Web___eq__ : Stmt := mem 12 1
abbrev N_Web___eq__ : List Str := ["self", "other"]
theorem sc_Web___eq__ : FnScope N_Web___eq__ ["self", "other"] (defScope s_Web___eq__) := ⟨rfl, rfl, rfl, by decide +kernel, rfl, by decide +kernel, by decide +kernel⟩
theorem d_Web___eq__ (M : Mg mg) (W : Wf K mg Cw) (hc : ∀ k, c.ct k = (Cw, nms_Web)) {f : Addr} {cdv : Value} {A : Around} {outer : List Env} {s : Shared} {H : Hp} {E : XK} (C : Cxt (cxOf (L2.CX P w) P w K mg base N_Web___eq__ "Web.__eq__" (defScope s_Web___eq__) f cdv A outer s H E) E 0) :
    SSs (cxOf (L2.CX P w) P w K mg base N_Web___eq__ "Web.__eq__" (defScope s_Web___eq__) f cdv A outer s H E) c E (defBody s_Web___eq__) g_Web___eq__ :=
  (sss_one (ss_ret (se_and (se_isiC (se_var 1) W.isc (by rw [hc]) M.isinstance W.glo_Web) (se_one (se_cmpB (ev_eq C.room) (se_tup (sa_cons (se_fld (se_var 0) W.cls W.no_places (hc _) (by decide +kernel)) (sa_cons (se_fld (se_var 0) W.cls W.no_arrows (hc _) (by decide +kernel)) sa_nil))) (se_tup (sa_cons (se_fld (se_var 1) W.cls W.no_places (hc _) (by decide +kernel)) (sa_cons (se_fld (se_var 1) W.cls W.no_arrows (hc _) (by decide +kernel)) sa_nil))))))))
end
section
variable {P : Program} {w : World} {K : PySem.W.Frag} {mg : Str → Option Value} {base : Heap} {c : Tc} {Cw : Addr}
abbrev s_form_by : Stmt := top 13
abbrev N_form_by : List Str := ["web", "one", "other", "found", "a", "b"]
theorem sc_form_by : FnScope N_form_by ["web", "one", "other"] (defScope s_form_by) := ⟨rfl, rfl, rfl, by decide +kernel, rfl, by decide +kernel, by decide +kernel⟩
theorem d_form_by (M : Mg mg) (W : Wf K mg Cw) (hc : ∀ k, c.ct k = (Cw, nms_Web)) {f : Addr} {cdv : Value} {A : Around} {outer : List Env} {s : Shared} {H : Hp} {E : XK} (C : Cxt (cxOf (L2.CX P w) P w K mg base N_form_by "form_by" (defScope s_form_by) f cdv A outer s H E) E 0) :
    SSs (cxOf (L2.CX P w) P w K mg base N_form_by "form_by" (defScope s_form_by) f cdv A outer s H E) c E (defBody s_form_by) g_form_by :=
  (sss_cons (ss_set (i := 3) C.nd (se_callB (ev_sum C.calm) boot_sum M.sum (sa_cons (se_lc C.calm C.nd (blkOk_by (own := [("a", 4), ("b", 5)]) (by kernel_rfl)) (si_zip M.zip (sa_cons (se_var 1) (sa_cons (se_var 2) sa_nil))) (by decide) (fun _ _ _ _ _ => (sg_tup (Cxt.blk C).calm (sgs_cons (sg_name (i := 4) (Cxt.blk C).nd) (sgs_cons (sg_name (i := 5) (Cxt.blk C).nd) sgs_nil)))) (fun _ _ _ _ _ => sif_nil) (fun _ _ _ _ _ => (se_bin ev_mul (se_var 4) (se_var 5)))) sa_nil)))
    (sss_one (ss_ret (se_bin ev_sub (se_var 3) (se_callB (ev_sum C.calm) boot_sum M.sum (sa_cons (se_lc C.calm C.nd (blkOk_by (own := [("a", 4), ("b", 5)]) (by kernel_rfl)) (si_seq (se_fld (se_var 0) W.cls W.no_arrows (hc _) (by decide +kernel))) (by decide) (fun _ _ _ _ _ => (sg_tup (Cxt.blk C).calm (sgs_cons (sg_name (i := 4) (Cxt.blk C).nd) (sgs_cons (sg_name (i := 5) (Cxt.blk C).nd) sgs_nil)))) (fun _ _ _ _ _ => sif_nil) (fun _ _ _ _ _ => (se_bin ev_mul (se_ix (se_var 1) (se_var 4)) (se_ix (se_var 2) (se_var 5))))) sa_nil))))))
end
section
variable {P : Program} {w : World} {K : PySem.W.Frag} {mg : Str → Option Value} {base : Heap} {c : Tc} {Cw : Addr}
abbrev s_orders_of : Stmt := top 16
abbrev N_orders_of : List Str := ["many", "found", "turn", "some", "one"]
theorem sc_orders_of : FnScope N_orders_of ["many"] (defScope s_orders_of) := ⟨rfl, rfl, rfl, by decide +kernel, rfl, by decide +kernel, by decide +kernel⟩
theorem d_orders_of (M : Mg mg) (W : Wf K mg Cw) (hc : ∀ k, c.ct k = (Cw, nms_Web)) {f : Addr} {cdv : Value} {A : Around} {outer : List Env} {s : Shared} {H : Hp} {E : XK} (C : Cxt (cxOf (L2.CX P w) P w K mg base N_orders_of "orders_of" (defScope s_orders_of) f cdv A outer s H E) E 0) :
    SSs (cxOf (L2.CX P w) P w K mg base N_orders_of "orders_of" (defScope s_orders_of) f cdv A outer s H E) c E (defBody s_orders_of) g_orders_of :=
  (sss_cons (ss_set (i := 1) C.nd (se_lst (sa_cons (se_tup sa_nil) sa_nil)))
    (sss_cons (ss_for own_pass C.calm (si_range1 M.range (sa_cons (se_var 0) sa_nil)) (sg_name (i := 2) C.nd) (sss_cons (ss_setLc2 (i := 1) (vs1 := [4]) C.calm C.nd (blkOk_by (own := [("some", 3), ("one", 4)]) (by kernel_rfl)) (si_seq (se_var 1)) (by decide) (by decide) (by decide) (fun _ _ _ _ _ => (sg_name (i := 3) (Cxt.blk C).nd)) (fun _ _ _ _ _ => sif_nil) (fun _ _ _ _ _ => (si_range1 M.range (sa_cons (se_var 0) sa_nil))) (fun _ _ _ _ _ => (sg_name (i := 4) (Cxt.blk C).nd)) (fun _ _ _ _ _ => (sif_one (st_cmp (ev_notin (Cxt.blk C).room) (se_var 4) (se_var 3)))) (fun _ _ _ _ _ => (se_bin ev_add (se_var 3) (se_tup (sa_cons (se_var 4) sa_nil)))) (by kernel_rfl))
    (sss_one (ss_if (st_cmp ev_gt (se_callB ev_len boot_len M.len (sa_cons (se_var 1) sa_nil)) (se_gint M.MOST_ORDERS.choose_spec)) (sss_one ss_never) sss_nil))))
    (sss_one (ss_ret (se_var 1)))))
end
section
variable {P : Program} {w : World} {K : PySem.W.Frag} {mg : Str → Option Value} {base : Heap} {c : Tc} {Cw : Addr}
abbrev s_with_places : Stmt := top 17
abbrev N_with_places : List Str := ["web", "order", "a", "b"]
theorem sc_with_places : FnScope N_with_places ["web", "order"] (defScope s_with_places) := ⟨rfl, rfl, rfl, by decide +kernel, rfl, by decide +kernel, by decide +kernel⟩
theorem d_with_places (M : Mg mg) (W : Wf K mg Cw) (hc : ∀ k, c.ct k = (Cw, nms_Web)) (Mk_Web : MkD P w K mg base 4 "Web" Cw (spM ⟨K, c.ct, c.xc⟩ 0 f_Web___init__)) {f : Addr} {cdv : Value} {A : Around} {outer : List Env} {s : Shared} {H : Hp} {E : XK} (C : Cxt (cxOf (L2.CX P w) P w K mg base N_with_places "with_places" (defScope s_with_places) f cdv A outer s H E) E 5) :
    SSs (cxOf (L2.CX P w) P w K mg base N_with_places "with_places" (defScope s_with_places) f cdv A outer s H E) c E (defBody s_with_places) g_with_places :=
  (sss_one (ss_ret (se_make Mk_Web (by rw [hc]) C.room C.gd C.pass (sa_cons (se_fld (se_var 0) W.cls W.no_places (hc _) (by decide +kernel)) (sa_cons (se_callTy ev_tuple boot_tuple M.tuple (sa_cons (se_callB (ev_sorted C.room) boot_sorted M.sorted (sa_cons (se_lc C.calm C.nd (blkOk_by (own := [("a", 2), ("b", 3)]) (by kernel_rfl)) (si_seq (se_fld (se_var 0) W.cls W.no_arrows (hc _) (by decide +kernel))) (by decide) (fun _ _ _ _ _ => (sg_tup (Cxt.blk C).calm (sgs_cons (sg_name (i := 2) (Cxt.blk C).nd) (sgs_cons (sg_name (i := 3) (Cxt.blk C).nd) sgs_nil)))) (fun _ _ _ _ _ => sif_nil) (fun _ _ _ _ _ => (se_tup (sa_cons (se_ix (se_var 1) (se_var 2)) (sa_cons (se_ix (se_var 1) (se_var 3)) sa_nil))))) sa_nil)) sa_nil)) sa_nil)))))
end
section
variable {P : Program} {w : World} {K : PySem.W.Frag} {mg : Str → Option Value} {base : Heap} {c : Tc} {Cw : Addr}
abbrev s_shape_order : Stmt := top 18
abbrev N_shape_order : List Str := ["web", "other", "due", "order", "a", "b"]
theorem sc_shape_order : FnScope N_shape_order ["web", "other"] (defScope s_shape_order) := ⟨rfl, rfl, rfl, by decide +kernel, rfl, by decide +kernel, by decide +kernel⟩
theorem d_shape_order (M : Mg mg) (W : Wf K mg Cw) (hc : ∀ k, c.ct k = (Cw, nms_Web)) (F_orders_of : Fnd P w K mg base 1 "orders_of" (spP ⟨K, c.ct, c.xc⟩ f_orders_of)) {f : Addr} {cdv : Value} {A : Around} {outer : List Env} {s : Shared} {H : Hp} {E : XK} (C : Cxt (cxOf (L2.CX P w) P w K mg base N_shape_order "shape_order" (defScope s_shape_order) f cdv A outer s H E) E 1) :
    SSs (cxOf (L2.CX P w) P w K mg base N_shape_order "shape_order" (defScope s_shape_order) f cdv A outer s H E) c E (defBody s_shape_order) g_shape_order :=
  (sss_cons (ss_if (SW.st (sw_or (st_cmp (ev_ne C.room) (se_fld (se_var 0) W.cls W.no_places (hc _) (by decide +kernel)) (se_fld (se_var 1) W.cls W.no_places (hc _) (by decide +kernel))) (sw_or1 (st_cmp (ev_ne C.room) (se_callB ev_len boot_len M.len (sa_cons (se_fld (se_var 0) W.cls W.no_arrows (hc _) (by decide +kernel)) sa_nil)) (se_callB ev_len boot_len M.len (sa_cons (se_fld (se_var 1) W.cls W.no_arrows (hc _) (by decide +kernel)) sa_nil)))))) (sss_one (ss_ret se_non)) sss_nil)
    (sss_cons (ss_set (i := 2) C.nd (se_callB (ev_sorted C.room) boot_sorted M.sorted (sa_cons (se_fld (se_var 1) W.cls W.no_arrows (hc _) (by decide +kernel)) sa_nil)))
    (sss_cons (ss_for own_pass C.calm (si_seq (se_call F_orders_of C.room C.gd C.pass (sa_cons (se_fld (se_var 0) W.cls W.no_places (hc _) (by decide +kernel)) sa_nil))) (sg_name (i := 3) C.nd) (sss_one (ss_if (st_cmp (ev_eq C.room) (se_callB (ev_sorted C.room) boot_sorted M.sorted (sa_cons (se_lc C.calm C.nd (blkOk_by (own := [("a", 4), ("b", 5)]) (by kernel_rfl)) (si_seq (se_fld (se_var 0) W.cls W.no_arrows (hc _) (by decide +kernel))) (by decide) (fun _ _ _ _ _ => (sg_tup (Cxt.blk C).calm (sgs_cons (sg_name (i := 4) (Cxt.blk C).nd) (sgs_cons (sg_name (i := 5) (Cxt.blk C).nd) sgs_nil)))) (fun _ _ _ _ _ => sif_nil) (fun _ _ _ _ _ => (se_tup (sa_cons (se_ix (se_var 3) (se_var 4)) (sa_cons (se_ix (se_var 3) (se_var 5)) sa_nil))))) sa_nil)) (se_var 2)) (sss_one (ss_ret (se_var 3))) sss_nil)))
    (sss_one (ss_ret se_non)))))
end
section
variable {P : Program} {w : World} {K : PySem.W.Frag} {mg : Str → Option Value} {base : Heap} {c : Tc} {Cw : Addr}
abbrev s_own_orders : Stmt := top 19
abbrev N_own_orders : List Str := ["web", "due", "order", "a", "b"]
theorem sc_own_orders : FnScope N_own_orders ["web"] (defScope s_own_orders) := ⟨rfl, rfl, rfl, by decide +kernel, rfl, by decide +kernel, by decide +kernel⟩
theorem d_own_orders (M : Mg mg) (W : Wf K mg Cw) (hc : ∀ k, c.ct k = (Cw, nms_Web)) (F_orders_of : Fnd P w K mg base 1 "orders_of" (spP ⟨K, c.ct, c.xc⟩ f_orders_of)) {f : Addr} {cdv : Value} {A : Around} {outer : List Env} {s : Shared} {H : Hp} {E : XK} (C : Cxt (cxOf (L2.CX P w) P w K mg base N_own_orders "own_orders" (defScope s_own_orders) f cdv A outer s H E) E 1) :
    SSs (cxOf (L2.CX P w) P w K mg base N_own_orders "own_orders" (defScope s_own_orders) f cdv A outer s H E) c E (defBody s_own_orders) g_own_orders :=
  (sss_cons (ss_set (i := 1) C.nd (se_callB (ev_sorted C.room) boot_sorted M.sorted (sa_cons (se_fld (se_var 0) W.cls W.no_arrows (hc _) (by decide +kernel)) sa_nil)))
    (sss_one (ss_ret (se_lc C.calm C.nd (blkOk_by (own := [("order", 2)]) (by kernel_rfl)) (si_seq (se_call F_orders_of C.room C.gd C.pass (sa_cons (se_fld (se_var 0) W.cls W.no_places (hc _) (by decide +kernel)) sa_nil))) (by decide) (fun _ _ _ _ _ => (sg_name (i := 2) (Cxt.blk C).nd)) (fun _ _ _ _ _ => (sif_one (st_cmp (ev_eq (Cxt.blk C).room) (se_callB (ev_sorted (Cxt.blk C).room) boot_sorted M.sorted (sa_cons (se_lc (Cxt.blk C).calm (Cxt.blk C).nd (blkOk_by (own := [("a", 3), ("b", 4)]) (by kernel_rfl)) (si_seq (se_fld (se_var 0) W.cls W.no_arrows (hc _) (by decide +kernel))) (by decide) (fun _ _ _ _ _ => (sg_tup (Cxt.blk (Cxt.blk C)).calm (sgs_cons (sg_name (i := 3) (Cxt.blk (Cxt.blk C)).nd) (sgs_cons (sg_name (i := 4) (Cxt.blk (Cxt.blk C)).nd) sgs_nil)))) (fun _ _ _ _ _ => sif_nil) (fun _ _ _ _ _ => (se_tup (sa_cons (se_ix (se_var 2) (se_var 3)) (sa_cons (se_ix (se_var 2) (se_var 4)) sa_nil))))) sa_nil)) (se_var 1)))) (fun _ _ _ _ _ => (se_var 2))))))
end
section
variable {P : Program} {w : World} {K : PySem.W.Frag} {mg : Str → Option Value} {base : Heap} {c : Tc} {Cw : Addr}
abbrev s_is_shape_order : Stmt := top 20
abbrev N_is_shape_order : List Str := ["web", "other", "thing", "a", "b"]
theorem sc_is_shape_order : FnScope N_is_shape_order ["web", "other", "thing"] (defScope s_is_shape_order) := ⟨rfl, rfl, rfl, by decide +kernel, rfl, by decide +kernel, by decide +kernel⟩
theorem d_is_shape_order (M : Mg mg) (W : Wf K mg Cw) (hc : ∀ k, c.ct k = (Cw, nms_Web)) (F_is_row : Fnd P w K mg base 3 "is_row" (spP ⟨K, c.ct, c.xc⟩ f_is_row)) {f : Addr} {cdv : Value} {A : Around} {outer : List Env} {s : Shared} {H : Hp} {E : XK} (C : Cxt (cxOf (L2.CX P w) P w K mg base N_is_shape_order "is_shape_order" (defScope s_is_shape_order) f cdv A outer s H E) E 3) :
    SSs (cxOf (L2.CX P w) P w K mg base N_is_shape_order "is_shape_order" (defScope s_is_shape_order) f cdv A outer s H E) c E (defBody s_is_shape_order) g_is_shape_order :=
  (sss_cons (ss_if (SW.st (sw_or (st_cmp (ev_ne C.room) (se_fld (se_var 0) W.cls W.no_places (hc _) (by decide +kernel)) (se_fld (se_var 1) W.cls W.no_places (hc _) (by decide +kernel))) (sw_or1 (st_not (st_val (se_call F_is_row C.room C.gd C.pass (sa_cons (se_var 2) (sa_cons (se_fld (se_var 0) W.cls W.no_places (hc _) (by decide +kernel)) (sa_cons se_int (sa_cons (se_bin ev_sub (se_fld (se_var 0) W.cls W.no_places (hc _) (by decide +kernel)) se_int) sa_nil)))))))))) (sss_one (ss_ret se_bl)) sss_nil)
    (sss_cons (ss_if (st_cmp (ev_ne C.room) (se_callB (ev_sorted C.room) boot_sorted M.sorted (sa_cons (se_var 2) sa_nil)) (se_listRg C.calm (se_fld (se_var 0) W.cls W.no_places (hc _) (by decide +kernel)) M.list M.range)) (sss_one (ss_ret se_bl)) sss_nil)
    (sss_one (ss_ret (se_cmpB (ev_eq C.room) (se_callB (ev_sorted C.room) boot_sorted M.sorted (sa_cons (se_lc C.calm C.nd (blkOk_by (own := [("a", 3), ("b", 4)]) (by kernel_rfl)) (si_seq (se_fld (se_var 0) W.cls W.no_arrows (hc _) (by decide +kernel))) (by decide) (fun _ _ _ _ _ => (sg_tup (Cxt.blk C).calm (sgs_cons (sg_name (i := 3) (Cxt.blk C).nd) (sgs_cons (sg_name (i := 4) (Cxt.blk C).nd) sgs_nil)))) (fun _ _ _ _ _ => sif_nil) (fun _ _ _ _ _ => (se_tup (sa_cons (se_ix (se_var 2) (se_var 3)) (sa_cons (se_ix (se_var 2) (se_var 4)) sa_nil))))) sa_nil)) (se_callB (ev_sorted C.room) boot_sorted M.sorted (sa_cons (se_fld (se_var 1) W.cls W.no_arrows (hc _) (by decide +kernel)) sa_nil)))))))
end
section
variable {P : Program} {w : World} {K : PySem.W.Frag} {mg : Str → Option Value} {base : Heap} {c : Tc} {Cw : Addr}
abbrev s_turned_shapes : Stmt := top 21
abbrev N_turned_shapes : List Str := ["web", "first", "found", "at", "here", "place", "later", "a", "b"]
theorem sc_turned_shapes : FnScope N_turned_shapes ["web"] (defScope s_turned_shapes) := ⟨rfl, rfl, rfl, by decide +kernel, rfl, by decide +kernel, by decide +kernel⟩
theorem d_turned_shapes (M : Mg mg) (W : Wf K mg Cw) (hc : ∀ k, c.ct k = (Cw, nms_Web)) (Mk_Web : MkD P w K mg base 4 "Web" Cw (spM ⟨K, c.ct, c.xc⟩ 0 f_Web___init__)) (Q : ∀ X : Cx, X.prog = P → X.w = w → X.K = K → X.mg = mg → X.base = base → EqCls X c 0 2 4) {f : Addr} {cdv : Value} {A : Around} {outer : List Env} {s : Shared} {H : Hp} {E : XK} (C : Cxt (cxOf (L2.CX P w) P w K mg base N_turned_shapes "turned_shapes" (defScope s_turned_shapes) f cdv A outer s H E) E 5) :
    SSs (cxOf (L2.CX P w) P w K mg base N_turned_shapes "turned_shapes" (defScope s_turned_shapes) f cdv A outer s H E) c E (defBody s_turned_shapes) g_turned_shapes :=
  (sss_cons (ss_set (i := 1) C.nd (se_make Mk_Web (by rw [hc]) C.room C.gd C.pass (sa_cons (se_fld (se_var 0) W.cls W.no_places (hc _) (by decide +kernel)) (sa_cons (se_callTy ev_tuple boot_tuple M.tuple (sa_cons (se_callB (ev_sorted C.room) boot_sorted M.sorted (sa_cons (se_fld (se_var 0) W.cls W.no_arrows (hc _) (by decide +kernel)) sa_nil)) sa_nil)) sa_nil))))
    (sss_cons (ss_par (i := 2) (j := 3) C.calm C.nd (se_lst (sa_cons (se_var 1) sa_nil)) se_int)
    (sss_cons (ss_while own_pass (st_cmp ev_lt (se_var 3) (se_callB ev_len boot_len M.len (sa_cons (se_var 2) sa_nil))) (sss_cons (ss_set (i := 4) C.nd (se_ix (se_var 2) (se_var 3)))
    (sss_cons (ss_for own_pass C.calm (si_range1 M.range (sa_cons (se_fld (se_var 0) W.cls W.no_places (hc _) (by decide +kernel)) sa_nil)) (sg_name (i := 5) C.nd) (sss_one (ss_if (st_not (st_val (se_callB (ev_any C.calm) boot_any M.any (sa_cons (se_lc C.calm C.nd (blkOk_by (own := [("a", 7), ("b", 8)]) (by kernel_rfl)) (si_seq (se_fld (se_var 4) W.cls W.no_arrows (hc _) (by decide +kernel))) (by decide) (fun _ _ _ _ _ => (sg_tup (Cxt.blk C).calm (sgs_cons (sg_name (i := 7) (Cxt.blk C).nd) (sgs_cons (sg_name (i := 8) (Cxt.blk C).nd) sgs_nil)))) (fun _ _ _ _ _ => sif_nil) (fun _ _ _ _ _ => (se_cmpB (ev_eq (Cxt.blk C).room) (se_var 7) (se_var 5)))) sa_nil)))) (sss_cons (ss_set (i := 6) C.nd (se_make Mk_Web (by rw [hc]) C.room C.gd C.pass (sa_cons (se_fld (se_var 0) W.cls W.no_places (hc _) (by decide +kernel)) (sa_cons (se_callTy ev_tuple boot_tuple M.tuple (sa_cons (se_callB (ev_sorted C.room) boot_sorted M.sorted (sa_cons (se_lc C.calm C.nd (blkOk_by (own := [("a", 7), ("b", 8)]) (by kernel_rfl)) (si_seq (se_fld (se_var 4) W.cls W.no_arrows (hc _) (by decide +kernel))) (by decide) (fun _ _ _ _ _ => (sg_tup (Cxt.blk C).calm (sgs_cons (sg_name (i := 7) (Cxt.blk C).nd) (sgs_cons (sg_name (i := 8) (Cxt.blk C).nd) sgs_nil)))) (fun _ _ _ _ _ => sif_nil) (fun _ _ _ _ _ => (se_ifx (st_cmp (ev_eq (Cxt.blk C).room) (se_var 8) (se_var 5)) (se_tup (sa_cons (se_var 8) (sa_cons (se_var 7) sa_nil))) (se_tup (sa_cons (se_var 7) (sa_cons (se_var 8) sa_nil)))))) sa_nil)) sa_nil)) sa_nil))))
    (sss_one (ss_if (st_cmp (in_own true (Q _ rfl rfl rfl rfl rfl) (by rw [hc]; exact nd_Web) C.pass C.room C.gd) (se_var 6) (se_var 2)) (sss_cons (ss_if (st_cmp (ev_eq C.room) (se_callB ev_len boot_len M.len (sa_cons (se_var 2) sa_nil)) se_int) (sss_one ss_never) sss_nil)
    (sss_one (ss_expr (se_mt PySem.F.slot_list_append PySem.F.type_list_append em_append (sa_cons (se_var 6) sa_nil) (var_pe (i := 2)))))) sss_nil))) sss_nil)))
    (sss_one (ss_aug (i := 3) C.nd se_int)))))
    (sss_one (ss_ret (se_var 2))))))
end
section
variable {P : Program} {w : World} {K : PySem.W.Frag} {mg : Str → Option Value} {base : Heap} {c : Tc} {Cw : Addr}
abbrev s_form_is_kept : Stmt := top 22
abbrev N_form_is_kept : List Str := ["web", "order", "units", "far", "a", "one", "b", "other"]
theorem sc_form_is_kept : FnScope N_form_is_kept ["web", "order"] (defScope s_form_is_kept) := ⟨rfl, rfl, rfl, by decide +kernel, rfl, by decide +kernel, by decide +kernel⟩
theorem d_form_is_kept (M : Mg mg) (W : Wf K mg Cw) (hc : ∀ k, c.ct k = (Cw, nms_Web)) (F_form_by : Fnd P w K mg base 6 "form_by" (spP ⟨K, c.ct, c.xc⟩ f_form_by)) (F_with_places : Fnd P w K mg base 6 "with_places" (spP ⟨K, c.ct, c.xc⟩ f_with_places)) {f : Addr} {cdv : Value} {A : Around} {outer : List Env} {s : Shared} {H : Hp} {E : XK} (C : Cxt (cxOf (L2.CX P w) P w K mg base N_form_is_kept "form_is_kept" (defScope s_form_is_kept) f cdv A outer s H E) E 6) :
    SSs (cxOf (L2.CX P w) P w K mg base N_form_is_kept "form_is_kept" (defScope s_form_is_kept) f cdv A outer s H E) c E (defBody s_form_is_kept) g_form_is_kept :=
  (sss_cons (ss_setLc (i := 2) C.calm C.nd (blkOk_by (own := [("a", 4)]) (by kernel_rfl)) (si_range1 M.range (sa_cons (se_fld (se_var 0) W.cls W.no_places (hc _) (by decide +kernel)) sa_nil)) (by decide) (fun _ _ _ _ _ => (sg_name (i := 4) (Cxt.blk C).nd)) (fun _ _ _ _ _ => sif_nil) (fun _ _ _ _ _ => (se_callTy ev_tuple boot_tuple M.tuple (sa_cons (se_lc (Cxt.blk C).calm (Cxt.blk C).nd (blkOk_by (own := [("b", 6)]) (by kernel_rfl)) (si_range1 M.range (sa_cons (se_fld (se_var 0) W.cls W.no_places (hc _) (by decide +kernel)) sa_nil)) (by decide) (fun _ _ _ _ _ => (sg_name (i := 6) (Cxt.blk (Cxt.blk C)).nd)) (fun _ _ _ _ _ => sif_nil) (fun _ _ _ _ _ => (se_callTy ev_int boot_int M.int (sa_cons (se_cmpB (ev_eq (Cxt.blk (Cxt.blk C)).room) (se_var 4) (se_var 6)) sa_nil)))) sa_nil))) (by kernel_rfl))
    (sss_cons (ss_set (i := 3) C.nd (se_call F_with_places C.room C.gd C.pass (sa_cons (se_var 0) (sa_cons (se_var 1) sa_nil))))
    (sss_cons (ss_for own_pass C.calm (si_enum M.enumerate (sa_cons (se_var 2) sa_nil)) (sg_tup C.calm (sgs_cons (sg_name (i := 4) C.nd) (sgs_cons (sg_name (i := 5) C.nd) sgs_nil))) (sss_one (ss_for own_pass C.calm (si_enum M.enumerate (sa_cons (se_var 2) sa_nil)) (sg_tup C.calm (sgs_cons (sg_name (i := 6) C.nd) (sgs_cons (sg_name (i := 7) C.nd) sgs_nil))) (sss_one (ss_if (st_cmp (ev_ne C.room) (se_call F_form_by C.room C.gd C.pass (sa_cons (se_var 0) (sa_cons (se_var 5) (sa_cons (se_var 7) sa_nil)))) (se_call F_form_by C.room C.gd C.pass (sa_cons (se_var 3) (sa_cons (se_ix (se_var 2) (se_ix (se_var 1) (se_var 4))) (sa_cons (se_ix (se_var 2) (se_ix (se_var 1) (se_var 6))) sa_nil))))) (sss_one (ss_ret se_bl)) sss_nil)))))
    (sss_one (ss_ret se_bl)))))
end
section
variable {P : Program} {w : World} {K : PySem.W.Frag} {mg : Str → Option Value} {base : Heap} {c : Tc} {Cw : Addr}
abbrev s__law_hand : Stmt := top 24
abbrev N__law_hand : List Str := ["script", "cells", "cell"]
theorem sc__law_hand : FnScope N__law_hand ["script"] (defScope s__law_hand) := ⟨rfl, rfl, rfl, by decide +kernel, rfl, by decide +kernel, by decide +kernel⟩
theorem d__law_hand (M : Mg mg) (W : Wf K mg Cw) (hc : ∀ k, c.ct k = (Cw, nms_Web)) {f : Addr} {cdv : Value} {A : Around} {outer : List Env} {s : Shared} {H : Hp} {E : XK} (C : Cxt (cxOf (L2.CX P w) P w K mg base N__law_hand "_law_hand" (defScope s__law_hand) f cdv A outer s H E) E 0) :
    SSs (cxOf (L2.CX P w) P w K mg base N__law_hand "_law_hand" (defScope s__law_hand) f cdv A outer s H E) c E (defBody s__law_hand) g__law_hand :=
  (sss_cons (ss_setLc (i := 1) C.calm C.nd (blkOk_by (own := [("cell", 2)]) (by kernel_rfl)) (si_seq (se_sl (se_var 0) sp_none (sp_some se_int))) (by decide) (fun _ _ _ _ _ => (sg_name (i := 2) (Cxt.blk C).nd)) (fun _ _ _ _ _ => sif_nil) (fun _ _ _ _ _ => (se_callB ev_abs boot_abs M.abs (sa_cons (se_callTy ev_int boot_int M.int (sa_cons (se_var 2) sa_nil)) sa_nil))) (by kernel_rfl))
    (sss_one (ss_ret (se_lst (sa_cons (se_var 1) (sa_cons se_int (sa_cons se_int (sa_cons (se_bin ev_add se_int (se_bin ev_mul se_int (se_callB ev_len boot_len M.len (sa_cons (se_var 1) sa_nil)))) (sa_cons se_int sa_nil)))))))))
end
section
variable {P : Program} {w : World} {K : PySem.W.Frag} {mg : Str → Option Value} {base : Heap} {c : Tc} {Cw : Addr}
abbrev s__law_draw : Stmt := top 25
abbrev N__law_draw : List Str := ["hand", "many", "number", "cell", "digit"]
theorem sc__law_draw : FnScope N__law_draw ["hand", "many"] (defScope s__law_draw) := ⟨rfl, rfl, rfl, by decide +kernel, rfl, by decide +kernel, by decide +kernel⟩
theorem d__law_draw (M : Mg mg) (W : Wf K mg Cw) (hc : ∀ k, c.ct k = (Cw, nms_Web)) {f : Addr} {cdv : Value} {A : Around} {outer : List Env} {s : Shared} {H : Hp} {E : XK} (C : Cxt (cxOf (L2.CX P w) P w K mg base N__law_draw "_law_draw" (defScope s__law_draw) f cdv A outer s H E) E 0) :
    SSs (cxOf (L2.CX P w) P w K mg base N__law_draw "_law_draw" (defScope s__law_draw) f cdv A outer s H E) c E (defBody s__law_draw) g__law_draw :=
  (sss_cons (ss_if (SW.st (sw_and (st_cmp (ev_eq C.room) (se_ix (se_var 0) se_int) se_int) (sw_and1 (st_cmp ev_lt (se_ix (se_var 0) se_int) (se_callB ev_len boot_len M.len (sa_cons (se_ix (se_var 0) se_int) sa_nil)))))) (sss_cons (ss_set (i := 3) C.nd (se_ix (se_ix (se_var 0) se_int) (se_ix (se_var 0) se_int)))
    (sss_cons (ss_setIx (se_bin ev_add (se_ix (se_var 0) se_int) se_int) se_int (var_pe (i := 0)))
    (sss_cons (ss_setIx (se_bin ev_mod (se_callTy ev_int boot_int M.int (sa_cons (se_bin ev_add (se_bin ev_add (se_bin ev_mul (se_ix (se_var 0) se_int) se_int) (se_bin ev_mul (se_var 3) se_int)) se_int) sa_nil)) se_int) se_int (var_pe (i := 0)))
    (sss_one (ss_if (st_cmp ev_ge (se_var 3) (se_bin ev_pow se_int se_int)) (sss_one (ss_setIx (se_var 3) se_int (var_pe (i := 0)))) sss_nil))))) sss_nil)
    (sss_cons (ss_if (st_cmp ev_gt (se_ix (se_var 0) se_int) se_int) (sss_cons (ss_set (i := 4) C.nd (se_bin ev_mod (se_callTy ev_int boot_int M.int (sa_cons (se_ix (se_var 0) se_int) sa_nil)) (se_var 1)))
    (sss_cons (ss_setIx (se_bin ev_fdiv (se_ix (se_var 0) se_int) (se_var 1)) se_int (var_pe (i := 0)))
    (sss_one (ss_ret (se_var 4))))) sss_nil)
    (sss_cons (ss_setIx (se_bin ev_add (se_ix (se_var 0) se_int) se_int) se_int (var_pe (i := 0)))
    (sss_cons (ss_set (i := 2) C.nd (se_bin ev_mod (se_callTy ev_int boot_int M.int (sa_cons (se_bin ev_mul (se_callTy ev_int boot_int M.int (sa_cons (se_bin ev_add (se_ix (se_var 0) se_int) (se_bin ev_mul se_int (se_ix (se_var 0) se_int))) sa_nil)) se_int) sa_nil)) se_int))
    (sss_cons (ss_set (i := 2) C.nd (se_bin ev_mod (se_callTy ev_int boot_int M.int (sa_cons (se_bin ev_mul (se_var 2) (se_bin ev_add (se_bin ev_fdiv (se_var 2) se_int) se_int)) sa_nil)) se_int))
    (sss_cons (ss_set (i := 2) C.nd (se_bin ev_mod (se_callTy ev_int boot_int M.int (sa_cons (se_bin ev_mul (se_var 2) (se_bin ev_add (se_bin ev_fdiv (se_var 2) se_int) se_int)) sa_nil)) se_int))
    (sss_one (ss_ret (se_bin ev_mod (se_callTy ev_int boot_int M.int (sa_cons (se_bin ev_fdiv (se_var 2) se_int) sa_nil)) (se_var 1))))))))))
end
section
variable {P : Program} {w : World} {K : PySem.W.Frag} {mg : Str → Option Value} {base : Heap} {c : Tc} {Cw : Addr}
abbrev s__law_any : Stmt := top 26
abbrev N__law_any : List Str := ["hand", "some"]
theorem sc__law_any : FnScope N__law_any ["hand", "some"] (defScope s__law_any) := ⟨rfl, rfl, rfl, by decide +kernel, rfl, by decide +kernel, by decide +kernel⟩
theorem d__law_any (M : Mg mg) (W : Wf K mg Cw) (hc : ∀ k, c.ct k = (Cw, nms_Web)) (F__law_draw : Fnd P w K mg base 1 "_law_draw" (spI ⟨K, c.ct, c.xc⟩ f__law_draw)) {f : Addr} {cdv : Value} {A : Around} {outer : List Env} {s : Shared} {H : Hp} {E : XK} (C : Cxt (cxOf (L2.CX P w) P w K mg base N__law_any "_law_any" (defScope s__law_any) f cdv A outer s H E) E 1) :
    SSs (cxOf (L2.CX P w) P w K mg base N__law_any "_law_any" (defScope s__law_any) f cdv A outer s H E) c E (defBody s__law_any) g__law_any :=
  (sss_one (ss_ret (se_ix (se_var 1) (se_callI F__law_draw C.room C.gd C.pass (var_pe (i := 0)) (sa_cons (se_callB ev_len boot_len M.len (sa_cons (se_var 1) sa_nil)) sa_nil)))))
end
section
variable {P : Program} {w : World} {K : PySem.W.Frag} {mg : Str → Option Value} {base : Heap} {c : Tc} {Cw : Addr}
abbrev s__law_mixed : Stmt := top 27
abbrev N__law_mixed : List Str := ["hand", "some", "left", "found"]
theorem sc__law_mixed : FnScope N__law_mixed ["hand", "some"] (defScope s__law_mixed) := ⟨rfl, rfl, rfl, by decide +kernel, rfl, by decide +kernel, by decide +kernel⟩
theorem d__law_mixed (M : Mg mg) (W : Wf K mg Cw) (hc : ∀ k, c.ct k = (Cw, nms_Web)) (F__law_draw : Fnd P w K mg base 1 "_law_draw" (spI ⟨K, c.ct, c.xc⟩ f__law_draw)) {f : Addr} {cdv : Value} {A : Around} {outer : List Env} {s : Shared} {H : Hp} {E : XK} (C : Cxt (cxOf (L2.CX P w) P w K mg base N__law_mixed "_law_mixed" (defScope s__law_mixed) f cdv A outer s H E) E 1) :
    SSs (cxOf (L2.CX P w) P w K mg base N__law_mixed "_law_mixed" (defScope s__law_mixed) f cdv A outer s H E) c E (defBody s__law_mixed) g__law_mixed :=
  (sss_cons (ss_par (i := 2) (j := 3) C.calm C.nd (se_callTy ev_list boot_list M.list (sa_cons (se_var 1) sa_nil)) (se_lst sa_nil))
    (sss_cons (ss_while own_pass (st_cmp ev_gt (se_callB ev_len boot_len M.len (sa_cons (se_var 2) sa_nil)) se_int) (sss_one (ss_expr (se_mt PySem.F.slot_list_append PySem.F.type_list_append em_append (sa_cons (se_mt PySem.F.slot_list_pop PySem.F.type_list_pop em_pop (sa_cons (se_callI F__law_draw C.room C.gd C.pass (var_pe (i := 0)) (sa_cons (se_callB ev_len boot_len M.len (sa_cons (se_var 2) sa_nil)) sa_nil)) sa_nil) (var_pe (i := 2))) sa_nil) (var_pe (i := 3))))))
    (sss_one (ss_ret (se_var 3)))))
end
section
variable {P : Program} {w : World} {K : PySem.W.Frag} {mg : Str → Option Value} {base : Heap} {c : Tc} {Cw : Addr}
abbrev s__law_arrows : Stmt := top 28
abbrev N__law_arrows : List Str := ["hand", "many", "order", "found", "turn", "at", "one", "pair"]
theorem sc__law_arrows : FnScope N__law_arrows ["hand", "many"] (defScope s__law_arrows) := ⟨rfl, rfl, rfl, by decide +kernel, rfl, by decide +kernel, by decide +kernel⟩
theorem d__law_arrows (M : Mg mg) (W : Wf K mg Cw) (hc : ∀ k, c.ct k = (Cw, nms_Web)) (F__law_any : Fnd P w K mg base 2 "_law_any" (spI ⟨K, c.ct, c.xc⟩ f__law_any)) (F__law_draw : Fnd P w K mg base 2 "_law_draw" (spI ⟨K, c.ct, c.xc⟩ f__law_draw)) (F__law_mixed : Fnd P w K mg base 2 "_law_mixed" (spI ⟨K, c.ct, c.xc⟩ f__law_mixed)) {f : Addr} {cdv : Value} {A : Around} {outer : List Env} {s : Shared} {H : Hp} {E : XK} (C : Cxt (cxOf (L2.CX P w) P w K mg base N__law_arrows "_law_arrows" (defScope s__law_arrows) f cdv A outer s H E) E 2) :
    SSs (cxOf (L2.CX P w) P w K mg base N__law_arrows "_law_arrows" (defScope s__law_arrows) f cdv A outer s H E) c E (defBody s__law_arrows) g__law_arrows :=
  (sss_cons (ss_par (i := 2) (j := 3) C.calm C.nd (se_callI F__law_mixed C.room C.gd C.pass (var_pe (i := 0)) (sa_cons (se_listRg C.calm (se_var 1) M.list M.range) sa_nil)) (se_lst sa_nil))
    (sss_cons (ss_if (SW.st (sw_and (st_cmp ev_gt (se_var 1) se_int) (sw_and1 (st_cmp (ev_eq C.room) (se_callI F__law_draw C.room C.gd C.pass (var_pe (i := 0)) (sa_cons se_int sa_nil)) se_int)))) (sss_cons (ss_for own_pass C.calm (si_range2 M.range (sa_cons se_int (sa_cons (se_var 1) sa_nil))) (sg_name (i := 5) C.nd) (sss_cons (ss_set (i := 7) C.nd (se_tup (sa_cons (se_ix (se_var 2) (se_var 5)) (sa_cons (se_ix (se_var 2) (se_callI F__law_draw C.room C.gd C.pass (var_pe (i := 0)) (sa_cons (se_var 5) sa_nil))) sa_nil))))
    (sss_one (ss_expr (se_mt PySem.F.slot_list_append PySem.F.type_list_append em_append (sa_cons (se_ifx (st_cmp (ev_eq C.room) (se_callI F__law_draw C.room C.gd C.pass (var_pe (i := 0)) (sa_cons se_int sa_nil)) se_int) (se_var 7) (se_rev (se_var 7))) sa_nil) (var_pe (i := 3)))))))
    (sss_one (ss_ret (se_callTy ev_tuple boot_tuple M.tuple (sa_cons (se_callI F__law_mixed C.room C.gd C.pass (var_pe (i := 0)) (sa_cons (se_var 3) sa_nil)) sa_nil))))) sss_nil)
    (sss_cons (ss_for own_pass C.calm (si_range1 M.range (sa_cons (se_ifx (st_cmp ev_gt (se_var 1) se_int) (se_callI F__law_any C.room C.gd C.pass (var_pe (i := 0)) (sa_cons (se_lst (sa_cons se_int (sa_cons se_int (sa_cons (se_var 1) (sa_cons se_int sa_nil))))) sa_nil)) se_int) sa_nil)) (sg_name (i := 4) C.nd) (sss_cons (ss_set (i := 6) C.nd (se_callI F__law_draw C.room C.gd C.pass (var_pe (i := 0)) (sa_cons (se_bin ev_sub (se_var 1) se_int) sa_nil)))
    (sss_one (ss_expr (se_mt PySem.F.slot_list_append PySem.F.type_list_append em_append (sa_cons (se_tup (sa_cons (se_ix (se_var 2) (se_var 6)) (sa_cons (se_ix (se_var 2) (se_bin ev_add (se_bin ev_add (se_var 6) se_int) (se_callI F__law_draw C.room C.gd C.pass (var_pe (i := 0)) (sa_cons (se_bin ev_sub (se_bin ev_sub (se_var 1) se_int) (se_var 6)) sa_nil)))) sa_nil))) sa_nil) (var_pe (i := 3)))))))
    (sss_one (ss_ret (se_callTy ev_tuple boot_tuple M.tuple (sa_cons (se_var 3) sa_nil)))))))
end
section
variable {P : Program} {w : World} {K : PySem.W.Frag} {mg : Str → Option Value} {base : Heap} {c : Tc} {Cw : Addr}
abbrev s__law_orders : Stmt := top 29
abbrev N__law_orders : List Str := ["many", "found", "one", "longer", "order", "at"]
theorem sc__law_orders : FnScope N__law_orders ["many"] (defScope s__law_orders) := ⟨rfl, rfl, rfl, by decide +kernel, rfl, by decide +kernel, by decide +kernel⟩
theorem d__law_orders (M : Mg mg) (W : Wf K mg Cw) (hc : ∀ k, c.ct k = (Cw, nms_Web)) {f : Addr} {cdv : Value} {A : Around} {outer : List Env} {s : Shared} {H : Hp} {E : XK} (C : Cxt (cxOf (L2.CX P w) P w K mg base N__law_orders "_law_orders" (defScope s__law_orders) f cdv A outer s H E) E 0) :
    SSs (cxOf (L2.CX P w) P w K mg base N__law_orders "_law_orders" (defScope s__law_orders) f cdv A outer s H E) c E (defBody s__law_orders) g__law_orders :=
  (sss_cons (ss_set (i := 1) C.nd (se_lst (sa_cons (se_tup sa_nil) sa_nil)))
    (sss_cons (ss_for own_pass C.calm (si_range1 M.range (sa_cons (se_var 0) sa_nil)) (sg_name (i := 2) C.nd) (sss_cons (ss_set (i := 3) C.nd (se_lst sa_nil))
    (sss_cons (ss_for own_pass C.calm (si_seq (se_var 1)) (sg_name (i := 4) C.nd) (sss_one (ss_expr (se_mt PySem.F.slot_list_extend PySem.F.type_list_extend em_extend (sa_cons (se_lc C.calm C.nd (blkOk_by (own := [("at", 5)]) (by kernel_rfl)) (si_range1 M.range (sa_cons (se_bin ev_add (se_callB ev_len boot_len M.len (sa_cons (se_var 4) sa_nil)) se_int) sa_nil)) (by decide) (fun _ _ _ _ _ => (sg_name (i := 5) (Cxt.blk C).nd)) (fun _ _ _ _ _ => sif_nil) (fun _ _ _ _ _ => (se_bin ev_add (se_bin ev_add (se_sl (se_var 4) sp_none (sp_some (se_var 5))) (se_tup (sa_cons (se_var 2) sa_nil))) (se_sl (se_var 4) (sp_some (se_var 5)) sp_none)))) sa_nil) (var_pe (i := 3))))))
    (sss_one (ss_set (i := 1) C.nd (se_var 3))))))
    (sss_one (ss_ret (se_callB (ev_sorted C.room) boot_sorted M.sorted (sa_cons (se_var 1) sa_nil))))))
end
section
variable {P : Program} {w : World} {K : PySem.W.Frag} {mg : Str → Option Value} {base : Heap} {c : Tc} {Cw : Addr}
abbrev s__law_called : Stmt := top 30
abbrev N__law_called : List Str := ["arrows", "order", "one", "other"]
theorem sc__law_called : FnScope N__law_called ["arrows", "order"] (defScope s__law_called) := ⟨rfl, rfl, rfl, by decide +kernel, rfl, by decide +kernel, by decide +kernel⟩
theorem d__law_called (M : Mg mg) (W : Wf K mg Cw) (hc : ∀ k, c.ct k = (Cw, nms_Web)) {f : Addr} {cdv : Value} {A : Around} {outer : List Env} {s : Shared} {H : Hp} {E : XK} (C : Cxt (cxOf (L2.CX P w) P w K mg base N__law_called "_law_called" (defScope s__law_called) f cdv A outer s H E) E 0) :
    SSs (cxOf (L2.CX P w) P w K mg base N__law_called "_law_called" (defScope s__law_called) f cdv A outer s H E) c E (defBody s__law_called) g__law_called :=
  (sss_one (ss_ret (se_callTy ev_tuple boot_tuple M.tuple (sa_cons (se_callB (ev_sorted C.room) boot_sorted M.sorted (sa_cons (se_lc C.calm C.nd (blkOk_by (own := [("one", 2), ("other", 3)]) (by kernel_rfl)) (si_seq (se_var 0)) (by decide) (fun _ _ _ _ _ => (sg_tup (Cxt.blk C).calm (sgs_cons (sg_name (i := 2) (Cxt.blk C).nd) (sgs_cons (sg_name (i := 3) (Cxt.blk C).nd) sgs_nil)))) (fun _ _ _ _ _ => sif_nil) (fun _ _ _ _ _ => (se_tup (sa_cons (se_ix (se_var 1) (se_var 2)) (sa_cons (se_ix (se_var 1) (se_var 3)) sa_nil))))) sa_nil)) sa_nil))))
end
section
variable {P : Program} {w : World} {K : PySem.W.Frag} {mg : Str → Option Value} {base : Heap} {c : Tc} {Cw : Addr}
abbrev s__law_shape_orders : Stmt := top 31
abbrev N__law_shape_orders : List Str := ["many", "arrows", "other", "order"]
theorem sc__law_shape_orders : FnScope N__law_shape_orders ["many", "arrows", "other"] (defScope s__law_shape_orders) := ⟨rfl, rfl, rfl, by decide +kernel, rfl, by decide +kernel, by decide +kernel⟩
theorem d__law_shape_orders (M : Mg mg) (W : Wf K mg Cw) (hc : ∀ k, c.ct k = (Cw, nms_Web)) (F__law_called : Fnd P w K mg base 1 "_law_called" (spP ⟨K, c.ct, c.xc⟩ f__law_called)) (F__law_orders : Fnd P w K mg base 1 "_law_orders" (spP ⟨K, c.ct, c.xc⟩ f__law_orders)) {f : Addr} {cdv : Value} {A : Around} {outer : List Env} {s : Shared} {H : Hp} {E : XK} (C : Cxt (cxOf (L2.CX P w) P w K mg base N__law_shape_orders "_law_shape_orders" (defScope s__law_shape_orders) f cdv A outer s H E) E 1) :
    SSs (cxOf (L2.CX P w) P w K mg base N__law_shape_orders "_law_shape_orders" (defScope s__law_shape_orders) f cdv A outer s H E) c E (defBody s__law_shape_orders) g__law_shape_orders :=
  (sss_one (ss_ret (se_lc C.calm C.nd (blkOk_by (own := [("order", 3)]) (by kernel_rfl)) (si_seq (se_call F__law_orders C.room C.gd C.pass (sa_cons (se_var 0) sa_nil))) (by decide) (fun _ _ _ _ _ => (sg_name (i := 3) (Cxt.blk C).nd)) (fun _ _ _ _ _ => (sif_one (st_cmp (ev_eq (Cxt.blk C).room) (se_call F__law_called (Cxt.blk C).room (Cxt.blk C).gd (Cxt.blk C).pass (sa_cons (se_var 1) (sa_cons (se_var 3) sa_nil))) (se_callTy ev_tuple boot_tuple M.tuple (sa_cons (se_callB (ev_sorted (Cxt.blk C).room) boot_sorted M.sorted (sa_cons (se_var 2) sa_nil)) sa_nil))))) (fun _ _ _ _ _ => (se_var 3)))))
end
section
variable {P : Program} {w : World} {K : PySem.W.Frag} {mg : Str → Option Value} {base : Heap} {c : Tc} {Cw : Addr}
abbrev s__law_turned : Stmt := top 32
abbrev N__law_turned : List Str := ["arrows", "place", "arrow"]
theorem sc__law_turned : FnScope N__law_turned ["arrows", "place"] (defScope s__law_turned) := ⟨rfl, rfl, rfl, by decide +kernel, rfl, by decide +kernel, by decide +kernel⟩
theorem d__law_turned (M : Mg mg) (W : Wf K mg Cw) (hc : ∀ k, c.ct k = (Cw, nms_Web)) {f : Addr} {cdv : Value} {A : Around} {outer : List Env} {s : Shared} {H : Hp} {E : XK} (C : Cxt (cxOf (L2.CX P w) P w K mg base N__law_turned "_law_turned" (defScope s__law_turned) f cdv A outer s H E) E 0) :
    SSs (cxOf (L2.CX P w) P w K mg base N__law_turned "_law_turned" (defScope s__law_turned) f cdv A outer s H E) c E (defBody s__law_turned) g__law_turned :=
  (sss_one (ss_ret (se_callTy ev_tuple boot_tuple M.tuple (sa_cons (se_callB (ev_sorted C.room) boot_sorted M.sorted (sa_cons (se_lc C.calm C.nd (blkOk_by (own := [("arrow", 2)]) (by kernel_rfl)) (si_seq (se_var 0)) (by decide) (fun _ _ _ _ _ => (sg_name (i := 2) (Cxt.blk C).nd)) (fun _ _ _ _ _ => sif_nil) (fun _ _ _ _ _ => (se_ifx (st_cmp (ev_in (Cxt.blk C).room) (se_var 1) (se_var 2)) (se_rev (se_var 2)) (se_var 2)))) sa_nil)) sa_nil))))
end
section
variable {P : Program} {w : World} {K : PySem.W.Frag} {mg : Str → Option Value} {base : Heap} {c : Tc} {Cw : Addr}
abbrev s__law_shapes : Stmt := top 33
abbrev N__law_shapes : List Str := ["many", "arrows", "found", "at", "place", "more", "one", "other"]
theorem sc__law_shapes : FnScope N__law_shapes ["many", "arrows"] (defScope s__law_shapes) := ⟨rfl, rfl, rfl, by decide +kernel, rfl, by decide +kernel, by decide +kernel⟩
theorem d__law_shapes (M : Mg mg) (W : Wf K mg Cw) (hc : ∀ k, c.ct k = (Cw, nms_Web)) (F__law_turned : Fnd P w K mg base 1 "_law_turned" (spP ⟨K, c.ct, c.xc⟩ f__law_turned)) {f : Addr} {cdv : Value} {A : Around} {outer : List Env} {s : Shared} {H : Hp} {E : XK} (C : Cxt (cxOf (L2.CX P w) P w K mg base N__law_shapes "_law_shapes" (defScope s__law_shapes) f cdv A outer s H E) E 1) :
    SSs (cxOf (L2.CX P w) P w K mg base N__law_shapes "_law_shapes" (defScope s__law_shapes) f cdv A outer s H E) c E (defBody s__law_shapes) g__law_shapes :=
  (sss_cons (ss_par (i := 2) (j := 3) C.calm C.nd (se_lst (sa_cons (se_callTy ev_tuple boot_tuple M.tuple (sa_cons (se_callB (ev_sorted C.room) boot_sorted M.sorted (sa_cons (se_var 1) sa_nil)) sa_nil)) sa_nil)) se_int)
    (sss_cons (ss_while own_pass (SW.st (sw_and (st_cmp ev_lt (se_var 3) (se_callB ev_len boot_len M.len (sa_cons (se_var 2) sa_nil))) (sw_and1 (st_cmp ev_lt (se_callB ev_len boot_len M.len (sa_cons (se_var 2) sa_nil)) se_int)))) (sss_cons (ss_for own_pass C.calm (si_range1 M.range (sa_cons (se_var 0) sa_nil)) (sg_name (i := 4) C.nd) (sss_one (ss_if (st_not (st_val (se_callB (ev_any C.calm) boot_any M.any (sa_cons (se_lc C.calm C.nd (blkOk_by (own := [("one", 6), ("other", 7)]) (by kernel_rfl)) (si_seq (se_ix (se_var 2) (se_var 3))) (by decide) (fun _ _ _ _ _ => (sg_tup (Cxt.blk C).calm (sgs_cons (sg_name (i := 6) (Cxt.blk C).nd) (sgs_cons (sg_name (i := 7) (Cxt.blk C).nd) sgs_nil)))) (fun _ _ _ _ _ => sif_nil) (fun _ _ _ _ _ => (se_cmpB (ev_eq (Cxt.blk C).room) (se_var 6) (se_var 4)))) sa_nil)))) (sss_cons (ss_set (i := 5) C.nd (se_call F__law_turned C.room C.gd C.pass (sa_cons (se_ix (se_var 2) (se_var 3)) (sa_cons (se_var 4) sa_nil))))
    (sss_one (ss_if (st_cmp (ev_notin C.room) (se_var 5) (se_var 2)) (sss_one (ss_expr (se_mt PySem.F.slot_list_append PySem.F.type_list_append em_append (sa_cons (se_var 5) sa_nil) (var_pe (i := 2))))) sss_nil))) sss_nil)))
    (sss_one (ss_set (i := 3) C.nd (se_bin ev_add (se_var 3) se_int)))))
    (sss_one (ss_ret (se_var 2)))))
end
section
variable {P : Program} {w : World} {K : PySem.W.Frag} {mg : Str → Option Value} {base : Heap} {c : Tc} {Cw : Addr}
abbrev s__law_judged_right : Stmt := top 35
abbrev N__law_judged_right : List Str := ["hand", "web", "other", "many", "due", "order", "at", "odd", "things", "thing", "flag", "is_due", "one"]
theorem sc__law_judged_right : FnScope N__law_judged_right ["hand", "web", "other", "many", "due"] (defScope s__law_judged_right) := ⟨rfl, rfl, rfl, by decide +kernel, rfl, by decide +kernel, by decide +kernel⟩
theorem d__law_judged_right (M : Mg mg) (W : Wf K mg Cw) (hc : ∀ k, c.ct k = (Cw, nms_Web)) (F__law_any : Fnd P w K mg base 4 "_law_any" (spI ⟨K, c.ct, c.xc⟩ f__law_any)) (F__law_draw : Fnd P w K mg base 4 "_law_draw" (spI ⟨K, c.ct, c.xc⟩ f__law_draw)) (F__law_mixed : Fnd P w K mg base 4 "_law_mixed" (spI ⟨K, c.ct, c.xc⟩ f__law_mixed)) (F_is_shape_order : Fnd P w K mg base 4 "is_shape_order" (spP ⟨K, c.ct, c.xc⟩ f_is_shape_order)) {f : Addr} {cdv : Value} {A : Around} {outer : List Env} {s : Shared} {H : Hp} {E : XK} (C : Cxt (cxOf (L2.CX P w) P w K mg base N__law_judged_right "_law_judged_right" (defScope s__law_judged_right) f cdv A outer s H E) E 4) :
    SSs (cxOf (L2.CX P w) P w K mg base N__law_judged_right "_law_judged_right" (defScope s__law_judged_right) f cdv A outer s H E) c E (defBody s__law_judged_right) g__law_judged_right :=
  (sss_cons (ss_set (i := 5) C.nd (se_callI F__law_any C.room C.gd C.pass (var_pe (i := 0)) (sa_cons (se_var 4) sa_nil)))
    (sss_cons (ss_set (i := 6) C.nd (se_callI F__law_draw C.room C.gd C.pass (var_pe (i := 0)) (sa_cons (se_var 3) sa_nil)))
    (sss_cons (ss_set (i := 7) C.nd (se_callI F__law_any C.room C.gd C.pass (var_pe (i := 0)) (sa_cons (se_lst (sa_cons (se_var 3) (sa_cons (se_neg se_int) (sa_cons se_non (sa_cons se_bl (sa_cons se_str (sa_cons (se_lst (sa_cons se_int sa_nil)) (sa_cons se_int (sa_cons se_int sa_nil))))))))) sa_nil)))
    (sss_cons (ss_set (i := 8) C.nd (se_lst (sa_cons (se_var 5) (sa_cons (se_callTy ev_tuple boot_tuple M.tuple (sa_cons (se_callI F__law_mixed C.room C.gd C.pass (var_pe (i := 0)) (sa_cons (se_callTy ev_list boot_list M.list (sa_cons (se_var 5) sa_nil)) sa_nil)) sa_nil)) (sa_cons (se_rev (se_var 5)) (sa_cons (se_callTy ev_list boot_list M.list (sa_cons (se_var 5) sa_nil)) (sa_cons (se_sl (se_var 5) (sp_some se_int) sp_none) (sa_cons (se_bin ev_add (se_var 5) (se_tup (sa_cons (se_var 3) sa_nil))) (sa_cons se_non sa_nil)))))))))
    (sss_cons (ss_set (i := 8) C.nd (se_bin ev_add (se_var 8) (se_lst (sa_cons (se_bin ev_add (se_bin ev_add (se_sl (se_var 5) sp_none (sp_some (se_var 6))) (se_tup (sa_cons (se_var 7) sa_nil))) (se_sl (se_var 5) (sp_some (se_bin ev_add (se_var 6) se_int)) sp_none)) (sa_cons se_int (sa_cons se_dct0 (sa_cons se_str (sa_cons (se_tup (sa_cons (se_var 5) sa_nil)) (sa_cons (se_bin ev_mul (se_tup (sa_cons (se_lst (sa_cons se_int sa_nil)) sa_nil)) (se_var 3)) sa_nil)))))))))
    (sss_cons (ss_for own_pass C.calm (si_seq (se_var 8)) (sg_name (i := 9) C.nd) (sss_cons (ss_set (i := 10) C.nd (se_call F_is_shape_order C.room C.gd C.pass (sa_cons (se_var 1) (sa_cons (se_var 2) (sa_cons (se_var 9) sa_nil)))))
    (sss_cons (ss_set (i := 11) C.nd (se_and (se_isi (se_var 9) boot_tuple M.isinstance M.tuple) (se_one (se_cmpB (ev_in C.room) (se_callB (ev_repr C.room C.gd) boot_repr M.repr (sa_cons (se_var 9) sa_nil)) (se_lc C.calm C.nd (blkOk_by (own := [("one", 12)]) (by kernel_rfl)) (si_seq (se_var 4)) (by decide) (fun _ _ _ _ _ => (sg_name (i := 12) (Cxt.blk C).nd)) (fun _ _ _ _ _ => sif_nil) (fun _ _ _ _ _ => (se_callB (ev_repr (Cxt.blk C).room (Cxt.blk C).gd) boot_repr M.repr (sa_cons (se_var 12) sa_nil))))))))
    (sss_one (ss_if (SW.st (sw_or (st_not (st_val (se_isi (se_var 10) boot_bool M.isinstance M.bool))) (sw_or1 (st_cmp (ev_ne C.room) (se_var 10) (se_var 11))))) (sss_one (ss_ret se_bl)) sss_nil)))))
    (sss_one (ss_ret se_bl))))))))
end
section
variable {P : Program} {w : World} {K : PySem.W.Frag} {mg : Str → Option Value} {base : Heap} {c : Tc} {Cw : Addr}
abbrev s__law_orders_right : Stmt := top 34
abbrev N__law_orders_right : List Str := ["hand", "many", "arrows", "web", "order", "there", "other", "due", "own", "one"]
theorem sc__law_orders_right : FnScope N__law_orders_right ["hand", "many", "arrows"] (defScope s__law_orders_right) := ⟨rfl, rfl, rfl, by decide +kernel, rfl, by decide +kernel, by decide +kernel⟩
theorem d__law_orders_right (M : Mg mg) (W : Wf K mg Cw) (hc : ∀ k, c.ct k = (Cw, nms_Web)) (F__law_called : Fnd P w K mg base 7 "_law_called" (spP ⟨K, c.ct, c.xc⟩ f__law_called)) (F__law_judged_right : Fnd P w K mg base 7 "_law_judged_right" (spI ⟨K, c.ct, c.xc⟩ f__law_judged_right)) (F__law_mixed : Fnd P w K mg base 7 "_law_mixed" (spI ⟨K, c.ct, c.xc⟩ f__law_mixed)) (F__law_shape_orders : Fnd P w K mg base 7 "_law_shape_orders" (spP ⟨K, c.ct, c.xc⟩ f__law_shape_orders)) (F_form_is_kept : Fnd P w K mg base 7 "form_is_kept" (spP ⟨K, c.ct, c.xc⟩ f_form_is_kept)) (F_own_orders : Fnd P w K mg base 7 "own_orders" (spP ⟨K, c.ct, c.xc⟩ f_own_orders)) (F_shape_order : Fnd P w K mg base 7 "shape_order" (spP ⟨K, c.ct, c.xc⟩ f_shape_order)) (F_with_places : Fnd P w K mg base 7 "with_places" (spP ⟨K, c.ct, c.xc⟩ f_with_places)) (Mk_Web : MkD P w K mg base 6 "Web" Cw (spM ⟨K, c.ct, c.xc⟩ 0 f_Web___init__)) (Q : ∀ X : Cx, X.prog = P → X.w = w → X.K = K → X.mg = mg → X.base = base → EqCls X c 0 2 6) {f : Addr} {cdv : Value} {A : Around} {outer : List Env} {s : Shared} {H : Hp} {E : XK} (C : Cxt (cxOf (L2.CX P w) P w K mg base N__law_orders_right "_law_orders_right" (defScope s__law_orders_right) f cdv A outer s H E) E 7) :
    SSs (cxOf (L2.CX P w) P w K mg base N__law_orders_right "_law_orders_right" (defScope s__law_orders_right) f cdv A outer s H E) c E (defBody s__law_orders_right) g__law_orders_right :=
  (sss_cons (ss_parT (i := 3) (j := 4) C.calm C.nd (se_make Mk_Web (by rw [hc]) C.room C.gd C.pass (sa_cons (se_var 1) (sa_cons (se_var 2) sa_nil))) (se_callTy ev_tuple boot_tuple M.tuple (sa_cons (se_callI F__law_mixed C.room C.gd C.pass (var_pe (i := 0)) (sa_cons (se_listRg C.calm (se_var 1) M.list M.range) sa_nil)) sa_nil)))
    (sss_cons (ss_set (i := 5) C.nd (se_call F__law_called C.room C.gd C.pass (sa_cons (se_var 2) (sa_cons (se_var 4) sa_nil))))
    (sss_cons (ss_if (st_cmp (ev_neW (Q _ rfl rfl rfl rfl rfl) C.pass C.room C.gd) (se_call F_with_places C.room C.gd C.pass (sa_cons (se_var 3) (sa_cons (se_var 4) sa_nil))) (se_make Mk_Web (by rw [hc]) C.room C.gd C.pass (sa_cons (se_var 1) (sa_cons (se_var 5) sa_nil)))) (sss_one (ss_ret se_bl)) sss_nil)
    (sss_cons (ss_set (i := 6) C.nd (se_make Mk_Web (by rw [hc]) C.room C.gd C.pass (sa_cons (se_var 1) (sa_cons (se_callTy ev_tuple boot_tuple M.tuple (sa_cons (se_callI F__law_mixed C.room C.gd C.pass (var_pe (i := 0)) (sa_cons (se_callTy ev_list boot_list M.list (sa_cons (se_var 5) sa_nil)) sa_nil)) sa_nil)) sa_nil))))
    (sss_cons (ss_par (i := 7) (j := 8) C.calm C.nd (se_call F__law_shape_orders C.room C.gd C.pass (sa_cons (se_var 1) (sa_cons (se_var 2) (sa_cons (se_var 5) sa_nil)))) (se_call F__law_shape_orders C.room C.gd C.pass (sa_cons (se_var 1) (sa_cons (se_var 2) (sa_cons (se_var 2) sa_nil)))))
    (sss_cons (ss_if (SW.st (sw_or (st_cmp (ev_ne C.room) (se_call F_shape_order C.room C.gd C.pass (sa_cons (se_var 3) (sa_cons (se_var 6) sa_nil))) (se_ix (se_var 7) se_int)) (sw_or (st_cmp (ev_ne C.room) (se_call F_own_orders C.room C.gd C.pass (sa_cons (se_var 3) sa_nil)) (se_var 8)) (sw_or1 (st_cmp (ev_ne C.room) (se_callB ev_len boot_len M.len (sa_cons (se_var 7) sa_nil)) (se_callB ev_len boot_len M.len (sa_cons (se_var 8) sa_nil))))))) (sss_one (ss_ret se_bl)) sss_nil)
    (sss_cons (ss_if (SW.st (sw_or (st_cmp (ev_notin C.room) (se_callTy ev_tuple boot_tuple M.tuple (sa_cons (se_listRg C.calm (se_var 1) M.list M.range) sa_nil)) (se_var 8)) (sw_or1 (st_cmp (ev_ne C.room) (se_callB ev_len boot_len M.len (sa_cons (se_call F_own_orders C.room C.gd C.pass (sa_cons (se_var 6) sa_nil)) sa_nil)) (se_callB ev_len boot_len M.len (sa_cons (se_var 8) sa_nil)))))) (sss_one (ss_ret se_bl)) sss_nil)
    (sss_one (ss_ret (se_and (se_callB (ev_all C.calm) boot_all M.all (sa_cons (se_lc C.calm C.nd (blkOk_by (own := [("one", 9)]) (by kernel_rfl)) (si_seq (se_sl (se_var 8) sp_none (sp_some se_int))) (by decide) (fun _ _ _ _ _ => (sg_name (i := 9) (Cxt.blk C).nd)) (fun _ _ _ _ _ => sif_nil) (fun _ _ _ _ _ => (se_cmpB ev_is (se_call F_form_is_kept (Cxt.blk C).room (Cxt.blk C).gd (Cxt.blk C).pass (sa_cons (se_var 3) (sa_cons (se_var 9) sa_nil))) se_bl))) sa_nil)) (se_one (se_callI F__law_judged_right C.room C.gd C.pass (var_pe (i := 0)) (sa_cons (se_var 3) (sa_cons (se_var 6) (sa_cons (se_var 1) (sa_cons (se_var 7) sa_nil))))))))))))))))
end
section
variable {P : Program} {w : World} {K : PySem.W.Frag} {mg : Str → Option Value} {base : Heap} {c : Tc} {Cw : Addr}
abbrev s__law_less : Stmt := top 37
abbrev N__law_less : List Str := ["arrows", "at", "found", "left", "is_on", "free", "place", "arrow", "one", "other"]
theorem sc__law_less : FnScope N__law_less ["arrows", "at"] (defScope s__law_less) := ⟨rfl, rfl, rfl, by decide +kernel, rfl, by decide +kernel, by decide +kernel⟩
theorem d__law_less (M : Mg mg) (W : Wf K mg Cw) (hc : ∀ k, c.ct k = (Cw, nms_Web)) {f : Addr} {cdv : Value} {A : Around} {outer : List Env} {s : Shared} {H : Hp} {E : XK} (C : Cxt (cxOf (L2.CX P w) P w K mg base N__law_less "_law_less" (defScope s__law_less) f cdv A outer s H E) E 0) :
    SSs (cxOf (L2.CX P w) P w K mg base N__law_less "_law_less" (defScope s__law_less) f cdv A outer s H E) c E (defBody s__law_less) g__law_less :=
  (sss_cons (ss_set (i := 2) C.nd (se_bin ev_add (se_bin ev_add (se_sl (se_var 0) sp_none (sp_some (se_var 1))) (se_lst (sa_cons (se_rev (se_ix (se_var 0) (se_var 1))) sa_nil))) (se_sl (se_var 0) (sp_some (se_bin ev_add (se_var 1) se_int)) sp_none)))
    (sss_cons (ss_parT (i := 3) (j := 4) C.calm C.nd (se_sos C.calm (se_sumL C.calm (se_lc C.calm C.nd (blkOk_by (own := [("arrow", 7)]) (by kernel_rfl)) (si_seq (se_var 2)) (by decide) (fun _ _ _ _ _ => (sg_name (i := 7) (Cxt.blk C).nd)) (fun _ _ _ _ _ => sif_nil) (fun _ _ _ _ _ => (se_callTy ev_list boot_list M.list (sa_cons (se_var 7) sa_nil)))) M.sum) M.sorted M.set) se_bl)
    (sss_cons (ss_while own_pass (st_val (se_var 4)) (sss_cons (ss_set (i := 5) C.nd (se_lc C.calm C.nd (blkOk_by (own := [("place", 6)]) (by kernel_rfl)) (si_seq (se_var 3)) (by decide) (fun _ _ _ _ _ => (sg_name (i := 6) (Cxt.blk C).nd)) (fun _ _ _ _ _ => (sif_one (st_not (st_val (se_callB (ev_any (Cxt.blk C).calm) boot_any M.any (sa_cons (se_lc (Cxt.blk C).calm (Cxt.blk C).nd (blkOk_by (own := [("one", 8), ("other", 9)]) (by kernel_rfl)) (si_seq (se_var 2)) (by decide) (fun _ _ _ _ _ => (sg_tup (Cxt.blk (Cxt.blk C)).calm (sgs_cons (sg_name (i := 8) (Cxt.blk (Cxt.blk C)).nd) (sgs_cons (sg_name (i := 9) (Cxt.blk (Cxt.blk C)).nd) sgs_nil)))) (fun _ _ _ _ _ => (sif_one (st_cmp (ev_eq (Cxt.blk (Cxt.blk C)).room) (se_var 9) (se_var 6)))) (fun _ _ _ _ _ => (se_cmpB (ev_in (Cxt.blk (Cxt.blk C)).room) (se_var 8) (se_var 3)))) sa_nil)))))) (fun _ _ _ _ _ => (se_var 6))))
    (sss_cons (ss_set (i := 3) C.nd (se_lc C.calm C.nd (blkOk_by (own := [("place", 6)]) (by kernel_rfl)) (si_seq (se_var 3)) (by decide) (fun _ _ _ _ _ => (sg_name (i := 6) (Cxt.blk C).nd)) (fun _ _ _ _ _ => (sif_one (st_cmp (ev_notin (Cxt.blk C).room) (se_var 6) (se_var 5)))) (fun _ _ _ _ _ => (se_var 6))))
    (sss_one (ss_set (i := 4) C.nd (se_cmpB ev_gt (se_callB ev_len boot_len M.len (sa_cons (se_var 5) sa_nil)) se_int))))))
    (sss_one (ss_ret (se_ifx (st_cmp (ev_eq C.room) (se_callB ev_len boot_len M.len (sa_cons (se_var 3) sa_nil)) se_int) (se_var 2) (se_var 0)))))))
end
section
variable {P : Program} {w : World} {K : PySem.W.Frag} {mg : Str → Option Value} {base : Heap} {c : Tc} {Cw : Addr}
abbrev s__law_others_right : Stmt := top 36
abbrev N__law_others_right : List Str := ["hand", "many", "arrows", "web", "changed", "due", "more", "at"]
theorem sc__law_others_right : FnScope N__law_others_right ["hand", "many", "arrows"] (defScope s__law_others_right) := ⟨rfl, rfl, rfl, by decide +kernel, rfl, by decide +kernel, by decide +kernel⟩
theorem d__law_others_right (M : Mg mg) (W : Wf K mg Cw) (hc : ∀ k, c.ct k = (Cw, nms_Web)) (F__law_any : Fnd P w K mg base 5 "_law_any" (spI ⟨K, c.ct, c.xc⟩ f__law_any)) (F__law_draw : Fnd P w K mg base 5 "_law_draw" (spI ⟨K, c.ct, c.xc⟩ f__law_draw)) (F__law_less : Fnd P w K mg base 5 "_law_less" (spP ⟨K, c.ct, c.xc⟩ f__law_less)) (F__law_shape_orders : Fnd P w K mg base 5 "_law_shape_orders" (spP ⟨K, c.ct, c.xc⟩ f__law_shape_orders)) (F_is_shape_order : Fnd P w K mg base 5 "is_shape_order" (spP ⟨K, c.ct, c.xc⟩ f_is_shape_order)) (F_shape_order : Fnd P w K mg base 5 "shape_order" (spP ⟨K, c.ct, c.xc⟩ f_shape_order)) (Mk_Web : MkD P w K mg base 4 "Web" Cw (spM ⟨K, c.ct, c.xc⟩ 0 f_Web___init__)) {f : Addr} {cdv : Value} {A : Around} {outer : List Env} {s : Shared} {H : Hp} {E : XK} (C : Cxt (cxOf (L2.CX P w) P w K mg base N__law_others_right "_law_others_right" (defScope s__law_others_right) f cdv A outer s H E) E 5) :
    SSs (cxOf (L2.CX P w) P w K mg base N__law_others_right "_law_others_right" (defScope s__law_others_right) f cdv A outer s H E) c E (defBody s__law_others_right) g__law_others_right :=
  (sss_cons (ss_par (i := 3) (j := 4) C.calm C.nd (se_make Mk_Web (by rw [hc]) C.room C.gd C.pass (sa_cons (se_var 1) (sa_cons (se_var 2) sa_nil))) (se_callTy ev_list boot_list M.list (sa_cons (se_var 2) sa_nil)))
    (sss_cons (ss_if (st_cmp ev_gt (se_callB ev_len boot_len M.len (sa_cons (se_var 4) sa_nil)) se_int) (sss_cons (ss_set (i := 7) C.nd (se_callI F__law_draw C.room C.gd C.pass (var_pe (i := 0)) (sa_cons (se_callB ev_len boot_len M.len (sa_cons (se_var 4) sa_nil)) sa_nil)))
    (sss_one (ss_set (i := 4) C.nd (se_callI F__law_any C.room C.gd C.pass (var_pe (i := 0)) (sa_cons (se_lst (sa_cons (se_bin ev_add (se_sl (se_var 4) sp_none (sp_some (se_var 7))) (se_sl (se_var 4) (sp_some (se_bin ev_add (se_var 7) se_int)) sp_none)) (sa_cons (se_bin ev_add (se_var 4) (se_lst (sa_cons (se_ix (se_var 4) (se_var 7)) sa_nil))) (sa_cons (se_call F__law_less C.room C.gd C.pass (sa_cons (se_var 4) (sa_cons (se_var 7) sa_nil))) sa_nil)))) sa_nil))))) sss_nil)
    (sss_cons (ss_set (i := 5) C.nd (se_ix (se_bin ev_add (se_call F__law_shape_orders C.room C.gd C.pass (sa_cons (se_var 1) (sa_cons (se_var 2) (sa_cons (se_var 4) sa_nil)))) (se_lst (sa_cons se_non sa_nil))) se_int))
    (sss_cons (ss_if (st_cmp (ev_ne C.room) (se_call F_shape_order C.room C.gd C.pass (sa_cons (se_var 3) (sa_cons (se_make Mk_Web (by rw [hc]) C.room C.gd C.pass (sa_cons (se_var 1) (sa_cons (se_callTy ev_tuple boot_tuple M.tuple (sa_cons (se_var 4) sa_nil)) sa_nil))) sa_nil))) (se_var 5)) (sss_one (ss_ret se_bl)) sss_nil)
    (sss_cons (ss_set (i := 6) C.nd (se_make Mk_Web (by rw [hc]) C.room C.gd C.pass (sa_cons (se_bin ev_add (se_var 1) se_int) (sa_cons (se_var 2) sa_nil))))
    (sss_one (ss_ret (se_and (se_cmpB ev_is (se_call F_shape_order C.room C.gd C.pass (sa_cons (se_var 3) (sa_cons (se_var 6) sa_nil))) se_non) (se_one (se_cmpB ev_is (se_call F_is_shape_order C.room C.gd C.pass (sa_cons (se_var 3) (sa_cons (se_var 6) (sa_cons (se_callTy ev_tuple boot_tuple M.tuple (sa_cons (se_listRg C.calm (se_var 1) M.list M.range) sa_nil)) sa_nil)))) se_bl))))))))))
end
section
variable {P : Program} {w : World} {K : PySem.W.Frag} {mg : Str → Option Value} {base : Heap} {c : Tc} {Cw : Addr}
abbrev s__law_turns_right : Stmt := top 38
abbrev N__law_turns_right : List Str := ["many", "arrows", "due", "told", "web", "one"]
theorem sc__law_turns_right : FnScope N__law_turns_right ["many", "arrows"] (defScope s__law_turns_right) := ⟨rfl, rfl, rfl, by decide +kernel, rfl, by decide +kernel, by decide +kernel⟩
theorem d__law_turns_right (M : Mg mg) (W : Wf K mg Cw) (hc : ∀ k, c.ct k = (Cw, nms_Web)) (F__law_shapes : Fnd P w K mg base 6 "_law_shapes" (spP ⟨K, c.ct, c.xc⟩ f__law_shapes)) (F_turned_shapes : Fnd P w K mg base 6 "turned_shapes" (spP ⟨K, c.ct, c.xc⟩ f_turned_shapes)) (Mk_Web : MkD P w K mg base 5 "Web" Cw (spM ⟨K, c.ct, c.xc⟩ 0 f_Web___init__)) {f : Addr} {cdv : Value} {A : Around} {outer : List Env} {s : Shared} {H : Hp} {E : XK} (C : Cxt (cxOf (L2.CX P w) P w K mg base N__law_turns_right "_law_turns_right" (defScope s__law_turns_right) f cdv A outer s H E) E 6) :
    SSs (cxOf (L2.CX P w) P w K mg base N__law_turns_right "_law_turns_right" (defScope s__law_turns_right) f cdv A outer s H E) c E (defBody s__law_turns_right) g__law_turns_right :=
  (sss_cons (ss_set (i := 2) C.nd (se_call F__law_shapes C.room C.gd C.pass (sa_cons (se_var 0) (sa_cons (se_var 1) sa_nil))))
    (sss_cons (ss_set (i := 3) C.nd (se_call F_turned_shapes C.room C.gd C.pass (sa_cons (se_make Mk_Web (by rw [hc]) C.room C.gd C.pass (sa_cons (se_var 0) (sa_cons (se_var 1) sa_nil))) sa_nil)))
    (sss_cons (ss_if (SW.st (sw_or (st_not (st_val (se_isi (se_var 3) boot_list M.isinstance M.list))) (sw_or1 (st_cmp (ev_ne C.room) (se_lc C.calm C.nd (blkOk_by (own := [("web", 4)]) (by kernel_rfl)) (si_seq (se_var 3)) (by decide) (fun _ _ _ _ _ => (sg_name (i := 4) (Cxt.blk C).nd)) (fun _ _ _ _ _ => sif_nil) (fun _ _ _ _ _ => (se_tup (sa_cons (se_fld (se_var 4) W.cls W.no_places (hc _) (by decide +kernel)) (sa_cons (se_fld (se_var 4) W.cls W.no_arrows (hc _) (by decide +kernel)) sa_nil))))) (se_lc C.calm C.nd (blkOk_by (own := [("one", 5)]) (by kernel_rfl)) (si_seq (se_var 2)) (by decide) (fun _ _ _ _ _ => (sg_name (i := 5) (Cxt.blk C).nd)) (fun _ _ _ _ _ => sif_nil) (fun _ _ _ _ _ => (se_tup (sa_cons (se_var 0) (sa_cons (se_var 5) sa_nil))))))))) (sss_one (ss_ret se_bl)) sss_nil)
    (sss_one (ss_ret (se_or (se_cmpB ev_gt (se_callB ev_len boot_len M.len (sa_cons (se_var 2) sa_nil)) se_int) (se_one (se_cmpB (ev_eq C.room) (se_callB (ev_sorted C.room) boot_sorted M.sorted (sa_cons (se_lc C.calm C.nd (blkOk_by (own := [("web", 4)]) (by kernel_rfl)) (si_seq (se_call F_turned_shapes C.room C.gd C.pass (sa_cons (se_ix (se_var 3) (se_neg se_int)) sa_nil))) (by decide) (fun _ _ _ _ _ => (sg_name (i := 4) (Cxt.blk C).nd)) (fun _ _ _ _ _ => sif_nil) (fun _ _ _ _ _ => (se_fld (se_var 4) W.cls W.no_arrows (hc _) (by decide +kernel)))) sa_nil)) (se_callB (ev_sorted C.room) boot_sorted M.sorted (sa_cons (se_var 2) sa_nil))))))))))
end
section
variable {P : Program} {w : World} {K : PySem.W.Frag} {mg : Str → Option Value} {base : Heap} {c : Tc} {Cw : Addr}
abbrev s_law : Stmt := top 39
abbrev N_law : List Str := ["script", "hand", "line", "turn", "many", "arrows"]
theorem sc_law : FnScope N_law ["script"] (defScope s_law) := ⟨rfl, rfl, rfl, by decide +kernel, rfl, by decide +kernel, by decide +kernel⟩
theorem d_law (M : Mg mg) (W : Wf K mg Cw) (hc : ∀ k, c.ct k = (Cw, nms_Web)) (F__law_arrows : Fnd P w K mg base 8 "_law_arrows" (spI ⟨K, c.ct, c.xc⟩ f__law_arrows)) (F__law_draw : Fnd P w K mg base 8 "_law_draw" (spI ⟨K, c.ct, c.xc⟩ f__law_draw)) (F__law_hand : Fnd P w K mg base 8 "_law_hand" (spP ⟨K, c.ct, c.xc⟩ f__law_hand)) (F__law_orders_right : Fnd P w K mg base 8 "_law_orders_right" (spI ⟨K, c.ct, c.xc⟩ f__law_orders_right)) (F__law_others_right : Fnd P w K mg base 8 "_law_others_right" (spI ⟨K, c.ct, c.xc⟩ f__law_others_right)) (F__law_turns_right : Fnd P w K mg base 8 "_law_turns_right" (spP ⟨K, c.ct, c.xc⟩ f__law_turns_right)) (F_own_orders : Fnd P w K mg base 8 "own_orders" (spP ⟨K, c.ct, c.xc⟩ f_own_orders)) (F_shape_order : Fnd P w K mg base 8 "shape_order" (spP ⟨K, c.ct, c.xc⟩ f_shape_order)) (F_turned_shapes : Fnd P w K mg base 8 "turned_shapes" (spP ⟨K, c.ct, c.xc⟩ f_turned_shapes)) (Mk_Web : MkD P w K mg base 7 "Web" Cw (spM ⟨K, c.ct, c.xc⟩ 0 f_Web___init__)) {f : Addr} {cdv : Value} {A : Around} {outer : List Env} {s : Shared} {H : Hp} {E : XK} (C : Cxt (cxOf (L2.CX P w) P w K mg base N_law "law" (defScope s_law) f cdv A outer s H E) E 8) :
    SSs (cxOf (L2.CX P w) P w K mg base N_law "law" (defScope s_law) f cdv A outer s H E) c E (defBody s_law) g_law :=
  (sss_cons (ss_set (i := 1) C.nd (se_call F__law_hand C.room C.gd C.pass (sa_cons (se_var 0) sa_nil)))
    (sss_cons (ss_set (i := 2) C.nd (se_make Mk_Web (by rw [hc]) C.room C.gd C.pass (sa_cons se_int (sa_cons (se_tup (sa_cons (se_tup (sa_cons se_int (sa_cons se_int sa_nil))) (sa_cons (se_tup (sa_cons se_int (sa_cons se_int sa_nil))) sa_nil))) sa_nil))))
    (sss_cons (ss_if (SW.st (sw_or (st_cmp (ev_ne C.room) (se_call F_shape_order C.room C.gd C.pass (sa_cons (se_var 2) (sa_cons (se_make Mk_Web (by rw [hc]) C.room C.gd C.pass (sa_cons se_int (sa_cons (se_tup (sa_cons (se_tup (sa_cons se_int (sa_cons se_int sa_nil))) (sa_cons (se_tup (sa_cons se_int (sa_cons se_int sa_nil))) sa_nil))) sa_nil))) sa_nil))) (se_tup (sa_cons se_int (sa_cons se_int (sa_cons se_int sa_nil))))) (sw_or1 (st_cmp (ev_ne C.room) (se_call F_own_orders C.room C.gd C.pass (sa_cons (se_var 2) sa_nil)) (se_lst (sa_cons (se_tup (sa_cons se_int (sa_cons se_int (sa_cons se_int sa_nil)))) sa_nil)))))) (sss_one (ss_ret se_bl)) sss_nil)
    (sss_cons (ss_if (SW.st (sw_or (st_cmp (ev_ne C.room) (se_callB ev_len boot_len M.len (sa_cons (se_call F_turned_shapes C.room C.gd C.pass (sa_cons (se_var 2) sa_nil)) sa_nil)) se_int) (sw_or1 (st_cmp (ev_ne C.room) (se_call F_own_orders C.room C.gd C.pass (sa_cons (se_make Mk_Web (by rw [hc]) C.room C.gd C.pass (sa_cons se_int (sa_cons (se_tup (sa_cons (se_tup (sa_cons se_int (sa_cons se_int sa_nil))) (sa_cons (se_tup (sa_cons se_int (sa_cons se_int sa_nil))) sa_nil))) sa_nil))) sa_nil)) (se_lst (sa_cons (se_tup (sa_cons se_int (sa_cons se_int (sa_cons se_int sa_nil)))) (sa_cons (se_tup (sa_cons se_int (sa_cons se_int (sa_cons se_int sa_nil)))) sa_nil))))))) (sss_one (ss_ret se_bl)) sss_nil)
    (sss_cons (ss_for own_pass C.calm (si_range1 M.range (sa_cons se_int sa_nil)) (sg_name (i := 3) C.nd) (sss_cons (ss_set (i := 4) C.nd (se_bin ev_add se_int (se_callI F__law_draw C.room C.gd C.pass (var_pe (i := 1)) (sa_cons se_int sa_nil))))
    (sss_cons (ss_set (i := 5) C.nd (se_callI F__law_arrows C.room C.gd C.pass (var_pe (i := 1)) (sa_cons (se_var 4) sa_nil)))
    (sss_cons (ss_if (SW.st (sw_or (st_not (st_val (se_callI F__law_orders_right C.room C.gd C.pass (var_pe (i := 1)) (sa_cons (se_var 4) (sa_cons (se_var 5) sa_nil))))) (sw_or1 (st_not (st_val (se_callI F__law_others_right C.room C.gd C.pass (var_pe (i := 1)) (sa_cons (se_var 4) (sa_cons (se_var 5) sa_nil)))))))) (sss_one (ss_ret se_bl)) sss_nil)
    (sss_one (ss_if (st_not (st_val (se_call F__law_turns_right C.room C.gd C.pass (sa_cons (se_var 4) (sa_cons (se_var 5) sa_nil))))) (sss_one (ss_ret se_bl)) sss_nil))))))
    (sss_one (ss_ret se_bl)))))))
end
end K94
/-! data of ints: encodings, sorting -/
namespace Ma
open PySem PySem.Spec L2 Ev PySem.W
open PyProof.Rows (listOrd itemOrd)
abbrev Pr := Int × Int
def eA (p : Pr) : D := .tup [.int p.1, .int p.2]
def eL (l : List Pr) : D := .tup (l.map eA)
def eO (o : List Int) : D := .tup (o.map .int)
theorem toPys_ok : ∀ {ds : List D}, (∀ d ∈ ds, toPy d = some (pyOf d)) → toPys ds = some (ds.map pyOf)
  | [], _ => rfl
  | d :: ds, h => by
    simp only [toPys]
    rw [h d List.mem_cons_self, toPys_ok fun x hx => h x (List.mem_cons_of_mem _ hx)]
    rfl
theorem py_int (i : Int) : toPy (.int i) = some (pyOf (.int i)) := rfl
theorem py_ints (o : List Int) : toPys (o.map .int) = some (o.map PyData.int) := by
  rw [toPys_ok (ds := o.map D.int) (fun d hd => by obtain ⟨i, _, rfl⟩ := List.mem_map.mp hd; rfl)]
  simp [List.map_map]; intro i _; rfl
theorem py_eO (o : List Int) : toPy (eO o) = some (.tuple (o.map PyData.int)) := by
  unfold eO; simp only [toPy]; rw [py_ints]; rfl
theorem pyOf_eO (o : List Int) : pyOf (eO o) = .tuple (o.map PyData.int) := by unfold pyOf; rw [py_eO]; rfl
theorem py_eA (p : Pr) : toPy (eA p) = some (.tuple [.int p.1, .int p.2]) := rfl
theorem pyOf_eA (p : Pr) : pyOf (eA p) = .tuple [.int p.1, .int p.2] := rfl
def pA (p : Pr) : PyData := .tuple [.int p.1, .int p.2]
theorem py_As (l : List Pr) : toPys (l.map eA) = some (l.map pA) := by
  rw [toPys_ok (ds := l.map eA) (fun d hd => by obtain ⟨i, _, rfl⟩ := List.mem_map.mp hd; rfl)]
  simp [List.map_map]; intro a b _; rfl
theorem py_eL (l : List Pr) : toPy (eL l) = some (.tuple (l.map pA)) := by
  unfold eL; simp only [toPy]; rw [py_As]; rfl
theorem pyOf_eL (l : List Pr) : pyOf (eL l) = .tuple (l.map pA) := by unfold pyOf; rw [py_eL]; rfl
/-! the same tokens, the same data -/
theorem tok_ints : ∀ {a b : List Int}, keyToksAll (a.map PyData.int) = keyToksAll (b.map PyData.int) → a = b
  | [], [], _ => rfl
  | [], y :: b, h => by simp [keyToksAll] at h
  | x :: a, [], h => by simp [keyToksAll] at h
  | x :: a, y :: b, h => by
    simp only [List.map_cons, keyToksAll, keyToks, List.cons_append, List.nil_append, List.cons.injEq, Sum.inl.injEq, true_and] at h
    rw [h.1, tok_ints h.2]
theorem eO_inj {a b : List Int} (h : eO a = eO b) : a = b := by
  unfold eO at h
  injection h with h
  have := congrArg (List.map fun d => match d with | D.int i => i | _ => 0) h
  simpa [List.map_map, Function.comp_def] using this
theorem eA_inj {a b : Pr} (h : eA a = eA b) : a = b := by
  unfold eA at h
  simp only [D.tup.injEq, List.cons.injEq, D.int.injEq, and_true] at h
  exact Prod.ext h.1 h.2
theorem map_inj {α β : Type} {f : α → β} (hf : ∀ a b, f a = f b → a = b) : ∀ {l m : List α}, l.map f = m.map f → l = m
  | [], [], _ => rfl
  | [], _ :: _, h => by simp at h
  | _ :: _, [], h => by simp at h
  | a :: l, b :: m, h => by
    simp only [List.map_cons, List.cons.injEq] at h
    rw [hf _ _ h.1, map_inj hf h.2]
theorem eL_inj {a b : List Pr} (h : eL a = eL b) : a = b := by
  unfold eL at h
  injection h with h
  exact map_inj (fun _ _ => eA_inj) h
theorem tok_pairs : ∀ {a b : List Pr}, keyToksAll (a.map pA) = keyToksAll (b.map pA) → a = b
  | [], [], _ => rfl
  | [], y :: b, h => by simp [keyToksAll] at h
  | x :: a, [], h => by simp [keyToksAll] at h
  | x :: a, y :: b, h => by
    simp only [List.map_cons, keyToksAll, keyToks, pA, List.cons_append, List.nil_append, List.cons.injEq, Sum.inl.injEq, true_and] at h
    have e : x = y := Prod.ext h.1 h.2.1
    rw [e, tok_pairs h.2.2]
/-! sorting -/
theorem le_total : TotalLe leD := sortLe_total (listOrd itemOrd) false fun b => keyToks (pyOf b)
theorem le_anti {a b : D} (h1 : leD a b = true) (h2 : leD b a = true) : keyToks (pyOf a) = keyToks (pyOf b) := by
  have e1 : (listOrd itemOrd).blt (keyToks (pyOf b)) (keyToks (pyOf a)) = false := by
    have h : (!(listOrd itemOrd).blt (keyToks (pyOf b)) (keyToks (pyOf a))) = true := h1
    simpa using h
  have e2 : (listOrd itemOrd).blt (keyToks (pyOf a)) (keyToks (pyOf b)) = false := by
    have h : (!(listOrd itemOrd).blt (keyToks (pyOf a)) (keyToks (pyOf b))) = true := h2
    simpa using h
  exact (listOrd itemOrd).total _ _ e2 e1
theorem sort_perm {ds es : List D} (p : ds.Perm es) (inj : ∀ a ∈ ds, ∀ b ∈ ds, keyToks (pyOf a) = keyToks (pyOf b) → a = b) : ds.mergeSort leD = es.mergeSort leD := by
  refine List.Perm.eq_of_pairwise (le := fun a b => leD a b = true) (fun a b ha hb h1 h2 => ?_) (sort_pairwise le_total ds) (sort_pairwise le_total es) ?_
  · exact inj a ((List.mergeSort_perm ds leD).mem_iff.mp ha) b (p.mem_iff.mpr ((List.mergeSort_perm es leD).mem_iff.mp hb)) (le_anti h1 h2)
  · exact ((List.mergeSort_perm ds leD).trans p).trans (List.mergeSort_perm es leD).symm
/-- pairs sorted -/
def srt (l : List Pr) : List Pr := l.mergeSort fun a b => leD (eA a) (eA b)
theorem srt_map (l : List Pr) : (l.map eA).mergeSort leD = (srt l).map eA := by
  unfold srt
  exact (sort_maps (r := fun a b => leD (eA a) (eA b)) (s := leD) eA (l := l) fun a _ b _ => rfl).symm
theorem srt_perm (l : List Pr) : (srt l).Perm l := List.mergeSort_perm _ _
theorem tok_eA {a b : Pr} (h : keyToks (pyOf (eA a)) = keyToks (pyOf (eA b))) : a = b := by
  rw [pyOf_eA, pyOf_eA] at h
  simp only [keyToks, keyToksAll, List.cons_append, List.nil_append, List.cons.injEq, Sum.inl.injEq, true_and, and_true] at h
  exact Prod.ext h.1 h.2
theorem srt_eq {l m : List Pr} (p : l.Perm m) : srt l = srt m := by
  have := sort_perm (p.map eA) fun a ha b hb h => by
    obtain ⟨x, _, rfl⟩ := List.mem_map.mp ha
    obtain ⟨y, _, rfl⟩ := List.mem_map.mp hb
    rw [tok_eA h]
  rw [srt_map, srt_map] at this
  exact map_inj (fun _ _ => eA_inj) this
theorem srt_iff {l m : List Pr} : srt l = srt m ↔ l.Perm m :=
  ⟨fun h => (srt_perm l).symm.trans (h ▸ srt_perm m), srt_eq⟩
/-! == of trees of ints -/
mutual
def tree : D → Bool
  | .int _ => true
  | .tup ds => trees ds
  | .lst ds => trees ds
  | _ => false
def trees : List D → Bool
  | [] => true
  | d :: ds => tree d && trees ds
end
mutual
def hi : D → Nat
  | .tup ds => his ds + 1
  | .lst ds => his ds + 1
  | _ => 0
def his : List D → Nat
  | [] => 0
  | d :: ds => max (hi d) (his ds)
end
mutual
theorem tree_py : ∀ d : D, tree d = true → ∃ p, toPy d = some p ∧ p.canLay0 = true ∧ p.depth ≤ hi d
  | .int i, _ => ⟨.int i, rfl, by simp [PyData.canLay0], by simp [PyData.depth]⟩
  | .tup ds, h => by
    obtain ⟨ps, h1, h2, h3⟩ := trees_py ds (by simpa [tree] using h)
    exact ⟨.tuple ps, by simp only [toPy, h1]; rfl, by simpa [PyData.canLay0] using h2, by simp only [PyData.depth, hi]; omega⟩
  | .lst ds, h => by
    obtain ⟨ps, h1, h2, h3⟩ := trees_py ds (by simpa [tree] using h)
    exact ⟨.list ps, by simp only [toPy, h1]; rfl, by simpa [PyData.canLay0] using h2, by simp only [PyData.depth, hi]; omega⟩
  | .non, h => by simp [tree] at h
  | .bl _, h => by simp [tree] at h
  | .str _, h => by simp [tree] at h
  | .ins _ _, h => by simp [tree] at h
  | .dct _ _, h => by simp [tree] at h
  | .scr _, h => by simp [tree] at h
theorem trees_py : ∀ ds : List D, trees ds = true → ∃ ps, toPys ds = some ps ∧ PyData.canLayAll0 ps = true ∧ PyData.depthAll ps ≤ his ds
  | [], _ => ⟨[], rfl, by simp [PyData.canLayAll0], by simp [PyData.depthAll]⟩
  | d :: ds, h => by
    obtain ⟨g1, g2⟩ := Bool.and_eq_true_iff.mp (show (tree d && trees ds) = true by simpa [trees] using h)
    obtain ⟨p, h1, h2, h3⟩ := tree_py d g1
    obtain ⟨ps, k1, k2, k3⟩ := trees_py ds g2
    exact ⟨p :: ps, by simp only [toPys, h1, k1], by simp [PyData.canLayAll0, h2, k2], by simp only [PyData.depthAll, his]; omega⟩
end
mutual
theorem tree_eqv : ∀ (a b : D) (p q : PyData), tree a = true → tree b = true → toPy a = some p → toPy b = some q → (PyData.eqv p q = true ↔ a = b)
  | .int i, b, p, q, _, hb, h1, h2 => by
    cases h1
    cases b with
    | int j => cases h2; simp [PyData.eqv]
    | tup ys =>
      simp only [toPy] at h2
      cases k : toPys ys with
      | none => rw [k] at h2; cases h2
      | some qs => rw [k] at h2; cases h2; simp [PyData.eqv]
    | lst ys =>
      simp only [toPy] at h2
      cases k : toPys ys with
      | none => rw [k] at h2; cases h2
      | some qs => rw [k] at h2; cases h2; simp [PyData.eqv]
    | _ => simp [tree] at hb
  | .tup xs, b, p, q, ha, hb, h1, h2 => by
    simp only [toPy] at h1
    cases k1 : toPys xs with
    | none => rw [k1] at h1; cases h1
    | some ps =>
      rw [k1] at h1; cases h1
      cases b with
      | int j => cases h2; simp [PyData.eqv]
      | tup ys =>
        simp only [toPy] at h2
        cases k : toPys ys with
        | none => rw [k] at h2; cases h2
        | some qs =>
          rw [k] at h2; cases h2
          have := trees_eqv xs ys ps qs (by simpa [tree] using ha) (by simpa [tree] using hb) k1 k
          simpa [PyData.eqv] using this
      | lst ys =>
        simp only [toPy] at h2
        cases k : toPys ys with
        | none => rw [k] at h2; cases h2
        | some qs => rw [k] at h2; cases h2; simp [PyData.eqv]
      | _ => simp [tree] at hb
  | .lst xs, b, p, q, ha, hb, h1, h2 => by
    simp only [toPy] at h1
    cases k1 : toPys xs with
    | none => rw [k1] at h1; cases h1
    | some ps =>
      rw [k1] at h1; cases h1
      cases b with
      | int j => cases h2; simp [PyData.eqv]
      | lst ys =>
        simp only [toPy] at h2
        cases k : toPys ys with
        | none => rw [k] at h2; cases h2
        | some qs =>
          rw [k] at h2; cases h2
          have := trees_eqv xs ys ps qs (by simpa [tree] using ha) (by simpa [tree] using hb) k1 k
          simpa [PyData.eqv] using this
      | tup ys =>
        simp only [toPy] at h2
        cases k : toPys ys with
        | none => rw [k] at h2; cases h2
        | some qs => rw [k] at h2; cases h2; simp [PyData.eqv]
      | _ => simp [tree] at hb
  | .non, _, _, _, h, _, _, _ => by simp [tree] at h
  | .bl _, _, _, _, h, _, _, _ => by simp [tree] at h
  | .str _, _, _, _, h, _, _, _ => by simp [tree] at h
  | .ins _ _, _, _, _, h, _, _, _ => by simp [tree] at h
  | .dct _ _, _, _, _, h, _, _, _ => by simp [tree] at h
  | .scr _, _, _, _, h, _, _, _ => by simp [tree] at h
theorem trees_eqv : ∀ (xs ys : List D) (ps qs : List PyData), trees xs = true → trees ys = true → toPys xs = some ps → toPys ys = some qs → (PyData.eqvAll ps qs = true ↔ xs = ys)
  | [], [], ps, qs, _, _, h1, h2 => by cases h1; cases h2; simp [PyData.eqvAll]
  | [], y :: ys, ps, qs, _, hb, h1, h2 => by
    cases h1
    obtain ⟨_, k, _⟩ := trees_py (y :: ys) hb
    simp only [toPys] at h2
    split at h2
    · cases h2; simp [PyData.eqvAll]
    · cases h2
  | x :: xs, [], ps, qs, _, hb, h1, h2 => by
    cases h2
    simp only [toPys] at h1
    split at h1
    · cases h1; simp [PyData.eqvAll]
    · cases h1
  | x :: xs, y :: ys, ps, qs, ha, hb, h1, h2 => by
    obtain ⟨a1, a2⟩ := Bool.and_eq_true_iff.mp (show (tree x && trees xs) = true by simpa [trees] using ha)
    obtain ⟨b1, b2⟩ := Bool.and_eq_true_iff.mp (show (tree y && trees ys) = true by simpa [trees] using hb)
    simp only [toPys] at h1 h2
    cases k1 : toPy x with
    | none => simp only [k1] at h1; cases h1
    | some p =>
      cases k2 : toPys xs with
      | none => simp only [k1, k2] at h1; cases h1
      | some ps' =>
        cases k3 : toPy y with
        | none => simp only [k3] at h2; cases h2
        | some q =>
          cases k4 : toPys ys with
          | none => simp only [k3, k4] at h2; cases h2
          | some qs' =>
            simp only [k1, k2] at h1
            simp only [k3, k4] at h2
            cases h1; cases h2
            have e1 := tree_eqv x y p q a1 b1 k1 k3
            have e2 := trees_eqv xs ys ps' qs' a2 b2 k2 k4
            rw [PyData.eqvAll, Bool.and_eq_true, e1, e2]
            simp
end
/-- == of trees of ints: are they the same -/
theorem eqD_tree {a b : D} (ha : tree a = true) (hb : tree b = true) (h1 : hi a ≤ 64) (h2 : hi b ≤ 64) : ∃ r, eqD a b = some r ∧ (r = true ↔ a = b) := by
  obtain ⟨p, k1, k2, k3⟩ := tree_py a ha
  obtain ⟨q, m1, m2, m3⟩ := tree_py b hb
  have s1 : SeqAt.shaped p = true := by unfold SeqAt.shaped; rw [k2]; simp; omega
  have s2 : SeqAt.shaped q = true := by unfold SeqAt.shaped; rw [m2]; simp; omega
  refine ⟨PyData.eqv p q, ?_, tree_eqv a b p q ha hb k1 m1⟩
  unfold eqD
  simp only [k1, m1]
  rw [if_pos ⟨s1, s2⟩]
theorem trees_map {α : Type} {f : α → D} (hf : ∀ a, tree (f a) = true) : ∀ l : List α, trees (l.map f) = true
  | [] => rfl
  | a :: l => by simp [trees, hf, trees_map hf l]
theorem his_map {α : Type} {f : α → D} {n : Nat} (hf : ∀ a, hi (f a) ≤ n) : ∀ l : List α, his (l.map f) ≤ n
  | [] => Nat.zero_le _
  | a :: l => by have := his_map hf l; have := hf a; simp only [List.map_cons, his]; omega
theorem tree_eA (p : Pr) : tree (eA p) = true := by simp [eA, tree, trees]
theorem tree_eL (l : List Pr) : tree (eL l) = true := by simp only [eL, tree]; exact trees_map tree_eA l
theorem tree_eO (l : List Int) : tree (eO l) = true := by simp only [eO, tree]; exact trees_map (fun _ => rfl) l
theorem hi_eA (p : Pr) : hi (eA p) = 1 := by simp [eA, hi, his]
theorem hi_eL (l : List Pr) : hi (eL l) ≤ 2 := by
  simp only [eL, hi]
  have := his_map (f := eA) (n := 1) (fun p => Nat.le_of_eq (hi_eA p)) l
  omega
theorem hi_eO (l : List Int) : hi (eO l) ≤ 1 := by
  simp only [eO, hi]
  have := his_map (f := D.int) (n := 0) (fun p => Nat.le_refl 0) l
  omega
end Ma
/-! comprehensions, loops by plain functions -/
namespace Ma
open PySem PySem.Spec L2 Ev
def opn (e : Option Ent) : Prop := e = some .no ∨ ∃ d, e = some (.sh d)
theorem opn_free {env : List Ent} {i : Nat} (h : opn env[i]?) : free env i = true := by
  unfold free
  rcases h with h | ⟨d, h⟩ <;> rw [h]
theorem set_get {env : List Ent} {i : Nat} {e : Ent} (h : env[i]? = some e) : env.set i e = env := by
  apply List.ext_getElem?
  intro j
  by_cases w : j = i
  · subst w
    have := (List.getElem?_eq_some_iff.mp h).1
    rw [List.getElem?_set_self this, h]
  · rw [List.getElem?_set_ne (Ne.symm w)]
theorem set_set {α : Type} {l : List α} {i : Nat} {a b : α} : (l.set i a).set i b = l.set i b := by simp
theorem getset {env : List Ent} {i : Nat} {e : Ent} (h : opn env[i]?) : (env.set i e)[i]? = some e := by
  have : i < env.length := by
    rcases h with h | ⟨d, h⟩ <;> exact (List.getElem?_eq_some_iff.mp h).1
  rw [List.getElem?_set_self this]
theorem back1 {env : List Ent} {i : Nat} (h : opn env[i]?) : backE env (env.set i .no) [i] = some env := by
  unfold backE backE
  rcases h with h | ⟨d, h⟩
  · simp only [h, set_set, set_get h]
  · simp only [h, set_set, set_get h]
theorem compL1 {i : Nat} {env : List Ent} {tt : FT} {fe : F} {t : D → Bool} {h : D → D} (hi : opn env[i]?) : ∀ (ds acc : List D), (∀ d ∈ ds, tt (env.set i (.sh d)) = some (.ok (t d) (env.set i (.sh d))) ∧ (t d = true → ∃ r, fe (env.set i (.sh d)) = some (.ok r (env.set i (.sh d))) ∧ (r = .sh (h d) ∨ r = .fr (h d)))) →
    compL (gnF i) tt fe [i] ds (env.set i .no) acc = some (acc ++ (ds.filter t).map h, env.set i .no)
  | [], acc, _ => by unfold compL; simp
  | d :: ds, acc, hb => by
    obtain ⟨h1, h2⟩ := hb d List.mem_cons_self
    have g1 : gnF i d (env.set i .no) = some (env.set i (.sh d)) := by
      unfold gnF put
      dsimp only
      rw [if_pos (opn_free (by rw [getset hi]; exact .inl rfl)), set_set]
    have ih := fun acc => compL1 (tt := tt) (fe := fe) (t := t) (h := h) hi ds acc fun x hx => hb x (List.mem_cons_of_mem _ hx)
    unfold compL
    rw [g1]
    dsimp only
    rw [h1]
    cases ht : t d with
    | false =>
      dsimp only
      have : wipeE (env.set i (.sh d)) [i] = env.set i .no := by unfold wipeE wipeE; rw [set_set]
      rw [this, ih, List.filter_cons_of_neg (by simp [ht])]
    | true =>
      dsimp only
      obtain ⟨r, h3, h4⟩ := h2 ht
      rw [h3]
      dsimp only
      have hs : store (env.set i (.sh d)) r = some (h d, env.set i (.sh d)) := by rcases h4 with rfl | rfl <;> rfl
      rw [hs]
      dsimp only
      have : wipeE (env.set i (.sh d)) [i] = env.set i .no := by unfold wipeE wipeE; rw [set_set]
      rw [this, ih, List.filter_cons_of_pos ht, List.map_cons, List.append_assoc]
      rfl
/-- [h d for d in ds if t d] -/
theorem comp1 {i : Nat} {env : List Ent} {it : FI} {tt : FT} {fe : F} {ops : List Nat} {ds : List D} {t : D → Bool} {h : D → D} (hit : it env = some (.ok ops ds env)) (hi : opn env[i]?) (hl : ds.length ≤ 1000000)
    (hb : ∀ d ∈ ds, tt (env.set i (.sh d)) = some (.ok (t d) (env.set i (.sh d))) ∧ (t d = true → ∃ r, fe (env.set i (.sh d)) = some (.ok r (env.set i (.sh d))) ∧ (r = .sh (h d) ∨ r = .fr (h d)))) : compF true [i] it (gnF i) tt fe env = some (.ok (.fr (.lst ((ds.filter t).map h))) env) := by
  have w : wipeE env [i] = env.set i .no := rfl
  unfold compF
  rw [hit]
  dsimp only
  rw [if_pos rfl]
  dsimp only
  rw [if_pos hl, w, compL1 hi ds [] hb]
  dsimp only
  rw [back1 hi, List.nil_append]
/-! a pair of names -/
theorem set_comm' {α : Type} {l : List α} {i j : Nat} {a b : α} (n : i ≠ j) : (l.set i a).set j b = (l.set j b).set i a := List.set_comm a b n
theorem compL2' {j k : Nat} (n : j ≠ k) {env : List Ent} {tt : FT} {fe : F} {x y : D → D} {t : D → Bool} {h : D → D} (hj : opn env[j]?) (hk : opn env[k]?) : ∀ (ds acc : List D), (∀ d ∈ ds, d = .tup [x d, y d] ∧ tt ((env.set j (.sh (x d))).set k (.sh (y d))) = some (.ok (t d) ((env.set j (.sh (x d))).set k (.sh (y d)))) ∧ (t d = true → ∃ r, fe ((env.set j (.sh (x d))).set k (.sh (y d))) = some (.ok r ((env.set j (.sh (x d))).set k (.sh (y d)))) ∧ (r = .sh (h d) ∨ r = .fr (h d)))) →
    compL (gtF (gconsF (gnF j) (gconsF (gnF k) gnilF))) tt fe [j, k] ds ((env.set k .no).set j .no) acc = some (acc ++ (ds.filter t).map h, (env.set k .no).set j .no)
  | [], acc, _ => by unfold compL; simp
  | d :: ds, acc, hb => by
    obtain ⟨h0, h1, h2⟩ := hb d List.mem_cons_self
    have lj : j < env.length := by rcases hj with h | ⟨d, h⟩ <;> exact (List.getElem?_eq_some_iff.mp h).1
    have lk : k < env.length := by rcases hk with h | ⟨d, h⟩ <;> exact (List.getElem?_eq_some_iff.mp h).1
    have g1 : gtF (gconsF (gnF j) (gconsF (gnF k) gnilF)) d ((env.set k .no).set j .no) = some ((env.set j (.sh (x d))).set k (.sh (y d))) := by
      rw [show gtF (gconsF (gnF j) (gconsF (gnF k) gnilF)) d ((env.set k .no).set j .no) = gtF (gconsF (gnF j) (gconsF (gnF k) gnilF)) (.tup [x d, y d]) ((env.set k .no).set j .no) from congrArg (fun z => gtF (gconsF (gnF j) (gconsF (gnF k) gnilF)) z ((env.set k .no).set j .no)) h0]
      show (gnF j (x d) _).bind _ = _
      have e1 : gnF j (x d) ((env.set k .no).set j .no) = some ((env.set k .no).set j (.sh (x d))) := by
        unfold gnF put
        dsimp only
        rw [if_pos (opn_free (.inl (by rw [List.getElem?_set_self (by simpa using lj)]))), set_set]
      rw [e1]
      show (gnF k (y d) _).bind _ = _
      have e2 : gnF k (y d) ((env.set k .no).set j (.sh (x d))) = some ((env.set j (.sh (x d))).set k (.sh (y d))) := by
        unfold gnF put
        dsimp only
        rw [if_pos (opn_free (.inl (by rw [List.getElem?_set_ne n, List.getElem?_set_self lk]))), set_comm' (Ne.symm n), set_set]
      rw [e2]
      rfl
    have wp : wipeE ((env.set j (.sh (x d))).set k (.sh (y d))) [j, k] = (env.set k .no).set j .no := by
      unfold wipeE wipeE wipeE
      rw [set_set, set_comm' n, set_set]
    have ih := fun acc => compL2' n (tt := tt) (fe := fe) (x := x) (y := y) (t := t) (h := h) hj hk ds acc fun z hz => hb z (List.mem_cons_of_mem _ hz)
    unfold compL
    rw [g1]
    dsimp only
    rw [h1]
    cases ht : t d with
    | false =>
      dsimp only
      rw [wp, ih, List.filter_cons_of_neg (by simp [ht])]
    | true =>
      dsimp only
      obtain ⟨r, h3, h4⟩ := h2 ht
      rw [h3]
      dsimp only
      have hs : store ((env.set j (.sh (x d))).set k (.sh (y d))) r = some (h d, (env.set j (.sh (x d))).set k (.sh (y d))) := by rcases h4 with rfl | rfl <;> rfl
      rw [hs]
      dsimp only
      rw [wp, ih, List.filter_cons_of_pos ht, List.map_cons, List.append_assoc]
      rfl
/-- [h (a, b) for a, b in ds if t (a, b)] -/
theorem comp2 {j k : Nat} (n : j ≠ k) {env : List Ent} {it : FI} {tt : FT} {fe : F} {ops : List Nat} {ds : List D} {x y : D → D} {t : D → Bool} {h : D → D} (hit : it env = some (.ok ops ds env)) (hj : opn env[j]?) (hk : opn env[k]?) (hl : ds.length ≤ 1000000)
    (hb : ∀ d ∈ ds, d = .tup [x d, y d] ∧ tt ((env.set j (.sh (x d))).set k (.sh (y d))) = some (.ok (t d) ((env.set j (.sh (x d))).set k (.sh (y d)))) ∧ (t d = true → ∃ r, fe ((env.set j (.sh (x d))).set k (.sh (y d))) = some (.ok r ((env.set j (.sh (x d))).set k (.sh (y d)))) ∧ (r = .sh (h d) ∨ r = .fr (h d)))) :
    compF true [j, k] it (gtF (gconsF (gnF j) (gconsF (gnF k) gnilF))) tt fe env = some (.ok (.fr (.lst ((ds.filter t).map h))) env) := by
  have w : wipeE env [j, k] = (env.set k .no).set j .no := rfl
  unfold compF
  rw [hit]
  dsimp only
  rw [if_pos rfl]
  dsimp only
  rw [if_pos hl, w, compL2' n hj hk ds [] hb]
  dsimp only
  have lj : j < env.length := by rcases hj with h | ⟨d, h⟩ <;> exact (List.getElem?_eq_some_iff.mp h).1
  have b : backE env ((env.set k .no).set j .no) [j, k] = some env := by
    have b1 : backE env ((env.set k .no).set j .no) [k] = some (env.set j .no) := by
      unfold backE backE
      rcases hk with h | ⟨d, h⟩
      · simp only [h]; rw [set_comm' n, set_set, set_get h]
      · simp only [h]; rw [set_comm' n, set_set, set_get h]
    unfold backE
    rw [b1]
    rcases hj with h | ⟨d, h⟩
    · simp only [h]; rw [set_set, set_get h]
    · simp only [h]; rw [set_set, set_get h]
  rw [b, List.nil_append]
theorem tupF_ap (fs : FA) (env : List Ent) : tupF fs env = dispF (fun ds => .sh (.tup ds)) fs env := rfl
theorem lstF_ap (fs : FA) (env : List Ent) : lstF fs env = dispF (fun ds => .fr (.lst ds)) fs env := rfl
end Ma
namespace K94
open PySem PySem.Spec L2 Ev Ma
theorem kit_tab : kitB "NoneType" "int" = some false ∧ kitB "bool" "int" = some true ∧ kitB "int" "int" = some true ∧ kitB "str" "int" = some false ∧ kitB "tuple" "int" = some false ∧ kitB "list" "int" = some false ∧ kitB "dict" "int" = some false := by decide +kernel
theorem kit_tab2 : kitB "NoneType" "bool" = some false ∧ kitB "bool" "bool" = some true ∧ kitB "int" "bool" = some false ∧ kitB "str" "bool" = some false ∧ kitB "tuple" "bool" = some false ∧ kitB "list" "bool" = some false ∧ kitB "dict" "bool" = some false := by decide +kernel
theorem kit_tab3 : kitB "NoneType" "tuple" = some false ∧ kitB "bool" "tuple" = some false ∧ kitB "int" "tuple" = some false ∧ kitB "str" "tuple" = some false ∧ kitB "tuple" "tuple" = some true ∧ kitB "list" "tuple" = some false ∧ kitB "dict" "tuple" = some false := by decide +kernel
theorem kit_tab4 : kitB "bool" "bool" = some true ∧ kitB "list" "list" = some true := by decide +kernel
def isInt : D → Bool
  | .int _ => true
  | _ => false
theorem isi_int {d : D} (h : (tyD d).isSome = true) : ∃ b, isiD "int" d = some (.sh (.bl b)) ∧ (b = true ↔ isInt d = true ∨ ∃ c, d = .bl c) := by
  obtain ⟨k1, k2, k3, k4, k5, k6, k7⟩ := kit_tab
  cases d <;> simp_all [isiD, tyD, isInt]
theorem isi_bool {d : D} (h : (tyD d).isSome = true) : ∃ b, isiD "bool" d = some (.sh (.bl b)) ∧ (b = true ↔ ∃ c, d = .bl c) := by
  obtain ⟨k1, k2, k3, k4, k5, k6, k7⟩ := kit_tab2
  cases d <;> simp_all [isiD, tyD]
def isTup : D → Option (List D)
  | .tup ds => some ds
  | _ => none
theorem isi_tup {d : D} (h : (tyD d).isSome = true) : isiD "tuple" d = some (.sh (.bl (isTup d).isSome)) := by
  obtain ⟨k1, k2, k3, k4, k5, k6, k7⟩ := kit_tab3
  cases d <;> simp_all [isiD, tyD, isTup]
theorem ok_is_integer {d : D} (h : (tyD d).isSome = true) : f_is_integer [d] = some (.ok (.sh (.bl (isInt d)))) := by
  obtain ⟨b1, h1, e1⟩ := isi_int h
  obtain ⟨b2, h2, e2⟩ := isi_bool h
  simp only [runF, ini, fin, retF, exprF, setF, nxF, seqF, ifS, bS_nx, bS_rt, bS, bES, bES_ok, andF, orF, unF, notF, negF, varF, shF, bE, bE_ok, bEt, bT, bA, bA_ok, peek, peeks, store, stores, put, free, Val.norm, truthD, consA, nilA, tupF_ap, lstF_ap, dispF, clF, caF, chF, chT, binF, cmpT, oBl, cm2, on1, truF, notT, andT, orT, ifF, lstFreeV, lstFree, lstFrees, List.map, List.append, List.replicate, List.length, List.getElem?_cons_zero, List.getElem?_cons_succ, List.cons_append, List.nil_append, List.set_cons_zero, List.set_cons_succ, Option.map, Option.bind, if_true, Nat.reduceAdd, Nat.reduceSub, Nat.zero_add, List.length_cons, List.length_nil, Bool.not_true, Bool.not_false, Bool.true_and, reduceIte, Bool.false_eq_true, if_false, Option.map_some, Option.bind_some, Nat.sub_self, List.replicate_zero, List.replicate_succ, Nat.succ_sub_succ_eq_sub, Nat.sub_zero, f_is_integer, g_is_integer, h1, h2]
  cases b1 <;> cases b2 <;> cases d <;> simp_all [isInt]
def within (d : D) (lo hi : Int) : Bool := match d with
  | .int i => decide (lo ≤ i) && decide (i ≤ hi)
  | _ => false
theorem ok_is_within {d : D} {lo hi : Int} (h : (tyD d).isSome = true) : f_is_within [d, .int lo, .int hi] = some (.ok (.sh (.bl (within d lo hi)))) := by
  simp only [runF, ini, fin, retF, exprF, setF, nxF, seqF, ifS, bS_nx, bS_rt, bS, bES, bES_ok, andF, orF, unF, notF, negF, varF, shF, bE, bE_ok, bEt, bT, bA, bA_ok, peek, peeks, store, stores, put, free, Val.norm, truthD, consA, nilA, tupF_ap, lstF_ap, dispF, clF, caF, chF, chT, binF, cmpT, oBl, cm2, on1, truF, notT, andT, orT, ifF, lstFreeV, lstFree, lstFrees, List.map, List.append, List.replicate, List.length, List.getElem?_cons_zero, List.getElem?_cons_succ, List.cons_append, List.nil_append, List.set_cons_zero, List.set_cons_succ, Option.map, Option.bind, if_true, Nat.reduceAdd, Nat.reduceSub, Nat.zero_add, List.length_cons, List.length_nil, Bool.not_true, Bool.not_false, Bool.true_and, reduceIte, Bool.false_eq_true, if_false, Option.map_some, Option.bind_some, Nat.sub_self, List.replicate_zero, List.replicate_succ, Nat.succ_sub_succ_eq_sub, Nat.sub_zero, f_is_within, g_is_within, ok_is_integer h]
  cases d with
  | int i =>
    simp only [runF, ini, fin, retF, exprF, setF, nxF, seqF, ifS, bS_nx, bS_rt, bS, bES, bES_ok, andF, orF, unF, notF, negF, varF, shF, bE, bE_ok, bEt, bT, bA, bA_ok, peek, peeks, store, stores, put, free, Val.norm, truthD, consA, nilA, tupF_ap, lstF_ap, dispF, clF, caF, chF, chT, binF, cmpT, oBl, cm2, on1, truF, notT, andT, orT, ifF, lstFreeV, lstFree, lstFrees, List.map, List.append, List.replicate, List.length, List.getElem?_cons_zero, List.getElem?_cons_succ, List.cons_append, List.nil_append, List.set_cons_zero, List.set_cons_succ, Option.map, Option.bind, if_true, Nat.reduceAdd, Nat.reduceSub, Nat.zero_add, List.length_cons, List.length_nil, Bool.not_true, Bool.not_false, Bool.true_and, reduceIte, Bool.false_eq_true, if_false, Option.map_some, Option.bind_some, Nat.sub_self, List.replicate_zero, List.replicate_succ, Nat.succ_sub_succ_eq_sub, Nat.sub_zero, isInt, within]
    by_cases h1 : lo ≤ i
    · simp [h1]
    · simp [h1]
  | _ => simp [isInt, within]
theorem ok_is_tuple {d : D} {lo hi : Int} (h : (tyD d).isSome = true) : f_is_tuple [d, .int lo, .int hi] = some (.ok (.sh (.bl (match isTup d with | some ds => decide (lo ≤ (ds.length : Int)) && decide ((ds.length : Int) ≤ hi) | none => false)))) := by
  simp only [runF, ini, fin, retF, exprF, setF, nxF, seqF, ifS, bS_nx, bS_rt, bS, bES, bES_ok, andF, orF, unF, notF, negF, varF, shF, bE, bE_ok, bEt, bT, bA, bA_ok, peek, peeks, store, stores, put, free, Val.norm, truthD, consA, nilA, tupF_ap, lstF_ap, dispF, clF, caF, chF, chT, binF, cmpT, oBl, cm2, on1, truF, notT, andT, orT, ifF, lstFreeV, lstFree, lstFrees, List.map, List.append, List.replicate, List.length, List.getElem?_cons_zero, List.getElem?_cons_succ, List.cons_append, List.nil_append, List.set_cons_zero, List.set_cons_succ, Option.map, Option.bind, if_true, Nat.reduceAdd, Nat.reduceSub, Nat.zero_add, List.length_cons, List.length_nil, Bool.not_true, Bool.not_false, Bool.true_and, reduceIte, Bool.false_eq_true, if_false, Option.map_some, Option.bind_some, Nat.sub_self, List.replicate_zero, List.replicate_succ, Nat.succ_sub_succ_eq_sub, Nat.sub_zero, f_is_tuple, g_is_tuple, isi_tup h]
  cases d with
  | tup ds =>
    simp only [runF, ini, fin, retF, exprF, setF, nxF, seqF, ifS, bS_nx, bS_rt, bS, bES, bES_ok, andF, orF, unF, notF, negF, varF, shF, bE, bE_ok, bEt, bT, bA, bA_ok, peek, peeks, store, stores, put, free, Val.norm, truthD, consA, nilA, tupF_ap, lstF_ap, dispF, clF, caF, chF, chT, binF, cmpT, oBl, cm2, on1, truF, notT, andT, orT, ifF, lstFreeV, lstFree, lstFrees, List.map, List.append, List.replicate, List.length, List.getElem?_cons_zero, List.getElem?_cons_succ, List.cons_append, List.nil_append, List.set_cons_zero, List.set_cons_succ, Option.map, Option.bind, if_true, Nat.reduceAdd, Nat.reduceSub, Nat.zero_add, List.length_cons, List.length_nil, Bool.not_true, Bool.not_false, Bool.true_and, reduceIte, Bool.false_eq_true, if_false, Option.map_some, Option.bind_some, Nat.sub_self, List.replicate_zero, List.replicate_succ, Nat.succ_sub_succ_eq_sub, Nat.sub_zero, isTup, lenD, Option.isSome]
    by_cases h1 : lo ≤ (ds.length : Int)
    · simp [h1]
    · simp [h1]
  | _ => simp [isTup]

theorem blsOf_map {α : Type} {f : α → Bool} : ∀ l : List α, blsOf (l.map fun a => D.bl (f a)) = some (l.map f)
  | [] => rfl
  | a :: l => by simp only [List.map_cons, blsOf, blsOf_map l]; rfl
def rowB (d : D) (m lo hi : Int) : Bool := match isTup d with
  | some ds => decide ((ds.length : Int) = m) && ds.all fun e => within e lo hi
  | none => false
theorem ok_is_row {d : D} {m lo hi : Int} (h : (tyD d).isSome = true) (ht : ∀ ds, isTup d = some ds → (∀ e ∈ ds, (tyD e).isSome = true) ∧ ds.length ≤ 1000000) : f_is_row [d, .int m, .int lo, .int hi] = some (.ok (.sh (.bl (rowB d m lo hi)))) := by
  cases d with
  | tup ds =>
    obtain ⟨h1, h2⟩ := ht ds rfl
    have hc : compF true [4] (seqI (varF 0)) (gnF 4) yesT (caF f_is_within (consA (varF 4) (consA (varF 2) (consA (varF 3) nilA)))) [.sh (.tup ds), .sh (.int m), .sh (.int lo), .sh (.int hi), .no] = some (.ok (.fr (.lst ((ds.filter fun _ => true).map fun e => .bl (within e lo hi)))) [.sh (.tup ds), .sh (.int m), .sh (.int lo), .sh (.int hi), .no]) := by
      refine comp1 (ops := []) (ds := ds) (by simp [seqI, varF, peek, opsOf]) (.inl rfl) h2 fun e he => ⟨rfl, fun _ => ⟨.sh (.bl (within e lo hi)), ?_, .inl rfl⟩⟩
      simp only [runF, ini, fin, retF, exprF, setF, nxF, seqF, ifS, bS_nx, bS_rt, bS, bES, bES_ok, andF, orF, unF, notF, negF, varF, shF, bE, bE_ok, bEt, bT, bA, bA_ok, peek, peeks, store, stores, put, free, Val.norm, truthD, consA, nilA, tupF_ap, lstF_ap, dispF, clF, caF, chF, chT, binF, cmpT, oBl, cm2, on1, truF, notT, andT, orT, ifF, lstFreeV, lstFree, lstFrees, List.map, List.append, List.replicate, List.length, List.getElem?_cons_zero, List.getElem?_cons_succ, List.cons_append, List.nil_append, List.set_cons_zero, List.set_cons_succ, Option.map, Option.bind, if_true, Nat.reduceAdd, Nat.reduceSub, Nat.zero_add, List.length_cons, List.length_nil, Bool.not_true, Bool.not_false, Bool.true_and, reduceIte, Bool.false_eq_true, if_false, Option.map_some, Option.bind_some, Nat.sub_self, List.replicate_zero, List.replicate_succ, Nat.succ_sub_succ_eq_sub, Nat.sub_zero, ok_is_within (h1 e he)]
    simp only [runF, ini, fin, retF, exprF, setF, nxF, seqF, ifS, bS_nx, bS_rt, bS, bES, bES_ok, andF, orF, unF, notF, negF, varF, shF, bE, bE_ok, bEt, bT, bA, bA_ok, peek, peeks, store, stores, put, free, Val.norm, truthD, consA, nilA, tupF_ap, lstF_ap, dispF, clF, caF, chF, chT, binF, cmpT, oBl, cm2, on1, truF, notT, andT, orT, ifF, lstFreeV, lstFree, lstFrees, List.map, List.append, List.replicate, List.length, List.getElem?_cons_zero, List.getElem?_cons_succ, List.cons_append, List.nil_append, List.set_cons_zero, List.set_cons_succ, Option.map, Option.bind, if_true, Nat.reduceAdd, Nat.reduceSub, Nat.zero_add, List.length_cons, List.length_nil, Bool.not_true, Bool.not_false, Bool.true_and, reduceIte, Bool.false_eq_true, if_false, Option.map_some, Option.bind_some, Nat.sub_self, List.replicate_zero, List.replicate_succ, Nat.succ_sub_succ_eq_sub, Nat.sub_zero, f_is_row, g_is_row, ok_is_tuple h, isTup, hc, allD, rowB]
    by_cases hm : (ds.length : Int) = m
    · subst hm
      have e1 : (ds.filter fun _ => true) = ds := List.filter_eq_self.mpr (by simp)
      simp [e1, blsOf_map, List.all_map, Function.comp_def]
    · have : (decide (m ≤ (ds.length : Int)) && decide ((ds.length : Int) ≤ m)) = false := by
        rw [Bool.and_eq_false_iff, decide_eq_false_iff_not, decide_eq_false_iff_not]; omega
      simp [this, hm]
  | _ => simp only [runF, ini, fin, retF, exprF, setF, nxF, seqF, ifS, bS_nx, bS_rt, bS, bES, bES_ok, andF, orF, unF, notF, negF, varF, shF, bE, bE_ok, bEt, bT, bA, bA_ok, peek, peeks, store, stores, put, free, Val.norm, truthD, consA, nilA, tupF_ap, lstF_ap, dispF, clF, caF, chF, chT, binF, cmpT, oBl, cm2, on1, truF, notT, andT, orT, ifF, lstFreeV, lstFree, lstFrees, List.map, List.append, List.replicate, List.length, List.getElem?_cons_zero, List.getElem?_cons_succ, List.cons_append, List.nil_append, List.set_cons_zero, List.set_cons_succ, Option.map, Option.bind, if_true, Nat.reduceAdd, Nat.reduceSub, Nat.zero_add, List.length_cons, List.length_nil, Bool.not_true, Bool.not_false, Bool.true_and, reduceIte, Bool.false_eq_true, if_false, Option.map_some, Option.bind_some, Nat.sub_self, List.replicate_zero, List.replicate_succ, Nat.succ_sub_succ_eq_sub, Nat.sub_zero, f_is_row, g_is_row, ok_is_tuple h, isTup, rowB]
theorem eqW_ok : ∀ ds r, eqWF 0 2 ds = some r → f_Web___eq__ ds = some r := by
  intro ds r h
  unfold eqWF at h
  split at h
  · rename_i a b
    cases k : eqIns 0 2 a b with
    | none => rw [k] at h; cases h
    | some q =>
      rw [k] at h
      cases h
      unfold eqIns at k
      split at k
      · rename_i i xs j ys
        split at k
        · rename_i hh
          obtain ⟨rfl, rfl, l1, l2⟩ := hh
          match xs, l1, ys, l2 with
          | [x1, x2], _, [y1, y2], _ =>
            simp only [runF, ini, fin, retF, exprF, setF, nxF, seqF, ifS, bS_nx, bS_rt, bS, bES, bES_ok, andF, orF, unF, notF, negF, varF, shF, bE, bE_ok, bEt, bT, bA, bA_ok, peek, peeks, store, stores, put, free, Val.norm, truthD, consA, nilA, tupF_ap, lstF_ap, dispF, clF, caF, chF, chT, binF, cmpT, oBl, cm2, on1, truF, notT, andT, orT, ifF, lstFreeV, lstFree, lstFrees, List.map, List.append, List.replicate, List.length, List.getElem?_cons_zero, List.getElem?_cons_succ, List.cons_append, List.nil_append, List.set_cons_zero, List.set_cons_succ, Option.map, Option.bind, if_true, Nat.reduceAdd, Nat.reduceSub, Nat.zero_add, List.length_cons, List.length_nil, Bool.not_true, Bool.not_false, Bool.true_and, reduceIte, Bool.false_eq_true, if_false, Option.map_some, Option.bind_some, Nat.sub_self, List.replicate_zero, List.replicate_succ, Nat.succ_sub_succ_eq_sub, Nat.sub_zero, f_Web___eq__, g_Web___eq__, isiC, fldD, k]
        · cases k
      · cases k
  · cases h
end K94
namespace K94
open PySem PySem.Spec L2 Ev Ma
theorem shaped_int (i : Int) : SeqAt.shaped (.int i) = true := by simp [SeqAt.shaped, PyData.canLay0, PyData.depth]
theorem canLay_ints : ∀ l : List Int, PyData.canLayAll0 (l.map PyData.int) = true
  | [] => by simp [PyData.canLayAll0]
  | i :: l => by simp [PyData.canLayAll0, PyData.canLay0, canLay_ints l]
theorem depth_ints' : ∀ l : List Int, PyData.depthAll (l.map PyData.int) = 0
  | [] => by simp [PyData.depthAll]
  | i :: l => by simp [PyData.depthAll, PyData.depth, depth_ints' l]
theorem shaped_lints (l : List Int) : SeqAt.shaped (.list (l.map PyData.int)) = true := by simp [SeqAt.shaped, PyData.canLay0, PyData.depth, canLay_ints, depth_ints']
theorem shaped_tints (l : List Int) : SeqAt.shaped (.tuple (l.map PyData.int)) = true := by simp [SeqAt.shaped, PyData.canLay0, PyData.depth, canLay_ints, depth_ints']
theorem eqD_int (a b : Int) : eqD (.int a) (.int b) = some (decide (a = b)) := by
  simp only [eqD, toPy, shaped_int, and_self, if_true, PyData.eqv]
  congr 1
theorem any_ints (a : Int) : ∀ l : List Int, ((l.map PyData.int).any fun z => PyData.eqv z (.int a)) = decide (a ∈ l)
  | [] => by simp
  | i :: l => by
    rw [List.map_cons, List.any_cons, any_ints a l]
    by_cases h : i = a
    · subst h; simp [PyData.eqv]
    · simp [PyData.eqv, h, Ne.symm h]
theorem inD_lints (neg : Bool) (a : Int) (l : List Int) : inD neg (.int a) (.lst (l.map D.int)) = some (xor neg (decide (a ∈ l))) := by
  simp only [inD, toPy, py_ints, shaped_int, shaped_lints, and_self, if_true, any_ints]
theorem inD_tints (neg : Bool) (a : Int) (l : List Int) : inD neg (.int a) (.tup (l.map D.int)) = some (xor neg (decide (a ∈ l))) := by
  simp only [inD, toPy, py_ints, shaped_int, shaped_tints, and_self, if_true, any_ints]
/-! ### order_from -/
def hot (l : List Pr) (left : List Int) (p : Int) : Bool := l.any fun q => decide (q.2 = p) && decide (q.1 ∈ left)
theorem filter_true {α : Type} (l : List α) : l.filter (fun _ => true) = l := List.filter_eq_self.mpr (by simp)
def fst2 : D → Int
  | .tup [.int a, .int b] => a
  | _ => 0
def snd2 : D → Int
  | .tup [.int a, .int b] => b
  | _ => 0
theorem fst2_eA (p : Pr) : fst2 (eA p) = p.1 := rfl
theorem snd2_eA (p : Pr) : snd2 (eA p) = p.2 := rfl
def intOf : D → Int
  | .int i => i
  | _ => 0
abbrev webD (n : Int) (l : List Pr) : D := .ins 0 [.int n, eL l]
theorem of_any (l : List Pr) (left : List Int) (hl : l.length ≤ 1000000) (p : Int) (e2 e3 : Ent) (x5 x6 : Ent) (h5 : opn (some x5)) (h6 : opn (some x6)) (n : Int) :
    compF true [5, 6] (seqI (unF (fldD 0 1) (varF 0))) (gtF (gconsF (gnF 5) (gconsF (gnF 6) gnilF))) yesT (andF (binF (oBl eqD) (varF 6) (varF 4)) (binF (oBl (inD false)) (varF 5) (varF 1))) [.sh (webD n l), .own (.lst (left.map D.int)), e2, e3, .sh (.int p), x5, x6] =
      some (.ok (.fr (.lst ((l.map eA).map fun d => .bl (decide (snd2 d = p) && decide (fst2 d ∈ left))))) [.sh (webD n l), .own (.lst (left.map D.int)), e2, e3, .sh (.int p), x5, x6]) := by
  have := comp2 (j := 5) (k := 6) (by decide) (env := [.sh (webD n l), .own (.lst (left.map D.int)), e2, e3, .sh (.int p), x5, x6]) (it := seqI (unF (fldD 0 1) (varF 0))) (tt := yesT) (fe := andF (binF (oBl eqD) (varF 6) (varF 4)) (binF (oBl (inD false)) (varF 5) (varF 1))) (ops := []) (ds := l.map eA) (x := fun d => .int (fst2 d)) (y := fun d => .int (snd2 d)) (t := fun _ => true)
    (h := fun d => .bl (decide (snd2 d = p) && decide (fst2 d ∈ left))) (by simp [seqI, unF, varF, peek, opsOf, fldD, eL]) h5 h6 (by simpa using hl) (fun d hd => ?_)
  · rw [filter_true] at this; exact this
  · obtain ⟨q, _, rfl⟩ := List.mem_map.mp hd
    refine ⟨rfl, rfl, fun _ => ?_⟩
    by_cases hq : q.2 = p
    · refine ⟨.sh (.bl (decide (q.1 ∈ left))), ?_, .inl ?_⟩
      · simp only [runF, ini, fin, retF, exprF, setF, nxF, seqF, ifS, bS_nx, bS_rt, bS, bES, bES_ok, andF, orF, unF, notF, negF, varF, shF, bE, bE_ok, bEt, bT, bA, bA_ok, peek, peeks, store, stores, put, free, Val.norm, truthD, consA, nilA, tupF_ap, lstF_ap, dispF, clF, caF, chF, chT, binF, cmpT, oBl, cm2, on1, truF, notT, andT, orT, ifF, lstFreeV, lstFree, lstFrees, List.map, List.append, List.replicate, List.length, List.getElem?_cons_zero, List.getElem?_cons_succ, List.cons_append, List.nil_append, List.set_cons_zero, List.set_cons_succ, Option.map, Option.bind, if_true, Nat.reduceAdd, Nat.reduceSub, Nat.zero_add, List.length_cons, List.length_nil, Bool.not_true, Bool.not_false, Bool.true_and, reduceIte, Bool.false_eq_true, if_false, Option.map_some, Option.bind_some, Nat.sub_self, List.replicate_zero, List.replicate_succ, Nat.succ_sub_succ_eq_sub, Nat.sub_zero, fst2_eA, snd2_eA, eqD_int, inD_lints, hq, decide_true, Bool.false_xor]
      · rw [fst2_eA, snd2_eA, hq, decide_eq_true (rfl : p = p), Bool.true_and]
    · refine ⟨.sh (.bl false), ?_, .inl ?_⟩
      · simp only [runF, ini, fin, retF, exprF, setF, nxF, seqF, ifS, bS_nx, bS_rt, bS, bES, bES_ok, andF, orF, unF, notF, negF, varF, shF, bE, bE_ok, bEt, bT, bA, bA_ok, peek, peeks, store, stores, put, free, Val.norm, truthD, consA, nilA, tupF_ap, lstF_ap, dispF, clF, caF, chF, chT, binF, cmpT, oBl, cm2, on1, truF, notT, andT, orT, ifF, lstFreeV, lstFree, lstFrees, List.map, List.append, List.replicate, List.length, List.getElem?_cons_zero, List.getElem?_cons_succ, List.cons_append, List.nil_append, List.set_cons_zero, List.set_cons_succ, Option.map, Option.bind, if_true, Nat.reduceAdd, Nat.reduceSub, Nat.zero_add, List.length_cons, List.length_nil, Bool.not_true, Bool.not_false, Bool.true_and, reduceIte, Bool.false_eq_true, if_false, Option.map_some, Option.bind_some, Nat.sub_self, List.replicate_zero, List.replicate_succ, Nat.succ_sub_succ_eq_sub, Nat.sub_zero, fst2_eA, snd2_eA, eqD_int, hq, decide_false]
      · simp [fst2_eA, snd2_eA, hq]
theorem of_ready (l : List Pr) (left : List Int) (hl : l.length ≤ 1000000) (hl2 : left.length ≤ 1000000) (e2 e3 : Ent) (x4 x5 x6 : Ent) (h4 : opn (some x4)) (h5 : opn (some x5)) (h6 : opn (some x6)) (n : Int) :
    compF true [4] (seqI (varF 1)) (gnF 4) (notT (truF (clF anyD (consA (compF true [5, 6] (seqI (unF (fldD 0 1) (varF 0))) (gtF (gconsF (gnF 5) (gconsF (gnF 6) gnilF))) yesT (andF (binF (oBl eqD) (varF 6) (varF 4)) (binF (oBl (inD false)) (varF 5) (varF 1)))) nilA)))) (varF 4) [.sh (webD n l), .own (.lst (left.map D.int)), e2, e3, x4, x5, x6] =
      some (.ok (.fr (.lst ((left.filter fun p => !hot l left p).map D.int))) [.sh (webD n l), .own (.lst (left.map D.int)), e2, e3, x4, x5, x6]) := by
  have := comp1 (i := 4) (env := [.sh (webD n l), .own (.lst (left.map D.int)), e2, e3, x4, x5, x6]) (it := seqI (varF 1)) (tt := notT (truF (clF anyD (consA (compF true [5, 6] (seqI (unF (fldD 0 1) (varF 0))) (gtF (gconsF (gnF 5) (gconsF (gnF 6) gnilF))) yesT (andF (binF (oBl eqD) (varF 6) (varF 4)) (binF (oBl (inD false)) (varF 5) (varF 1)))) nilA)))) (fe := varF 4) (ops := [1]) (ds := left.map D.int) (t := fun d => !hot l left (intOf d)) (h := fun d => d)
    (by simp [seqI, varF, peek, opsOf]) h4 (by simpa using hl2) (fun d hd => ?_)
  · rw [this]
    congr 4
    rw [List.map_id']
    rw [List.filter_map]; rfl
  · obtain ⟨p, _, rfl⟩ := List.mem_map.mp hd
    refine ⟨?_, fun _ => ⟨.sh (.int p), by simp only [runF, ini, fin, retF, exprF, setF, nxF, seqF, ifS, bS_nx, bS_rt, bS, bES, bES_ok, andF, orF, unF, notF, negF, varF, shF, bE, bE_ok, bEt, bT, bA, bA_ok, peek, peeks, store, stores, put, free, Val.norm, truthD, consA, nilA, tupF_ap, lstF_ap, dispF, clF, caF, chF, chT, binF, cmpT, oBl, cm2, on1, truF, notT, andT, orT, ifF, lstFreeV, lstFree, lstFrees, List.map, List.append, List.replicate, List.length, List.getElem?_cons_zero, List.getElem?_cons_succ, List.cons_append, List.nil_append, List.set_cons_zero, List.set_cons_succ, Option.map, Option.bind, if_true, Nat.reduceAdd, Nat.reduceSub, Nat.zero_add, List.length_cons, List.length_nil, Bool.not_true, Bool.not_false, Bool.true_and, reduceIte, Bool.false_eq_true, if_false, Option.map_some, Option.bind_some, Nat.sub_self, List.replicate_zero, List.replicate_succ, Nat.succ_sub_succ_eq_sub, Nat.sub_zero], .inl rfl⟩⟩
    have hc := of_any l left hl p e2 e3 x5 x6 h5 h6 n
    simp only [runF, ini, fin, retF, exprF, setF, nxF, seqF, ifS, bS_nx, bS_rt, bS, bES, bES_ok, andF, orF, unF, notF, negF, varF, shF, bE, bE_ok, bEt, bT, bA, bA_ok, peek, peeks, store, stores, put, free, Val.norm, truthD, consA, nilA, tupF_ap, lstF_ap, dispF, clF, caF, chF, chT, binF, cmpT, oBl, cm2, on1, truF, notT, andT, orT, ifF, lstFreeV, lstFree, lstFrees, List.map, List.append, List.replicate, List.length, List.getElem?_cons_zero, List.getElem?_cons_succ, List.cons_append, List.nil_append, List.set_cons_zero, List.set_cons_succ, Option.map, Option.bind, if_true, Nat.reduceAdd, Nat.reduceSub, Nat.zero_add, List.length_cons, List.length_nil, Bool.not_true, Bool.not_false, Bool.true_and, reduceIte, Bool.false_eq_true, if_false, Option.map_some, Option.bind_some, Nat.sub_self, List.replicate_zero, List.replicate_succ, Nat.succ_sub_succ_eq_sub, Nat.sub_zero, hc, anyD, blsOf_map]
    have : ((l.map eA).map fun d => decide (snd2 d = p) && decide (fst2 d ∈ left)).any id = hot l left p := by
      unfold hot
      rw [List.any_map, List.any_map]
      rfl
    rw [this]
    rfl

theorem exists_min (r : Int → Int) : ∀ {l : List Int}, l ≠ [] → ∃ p ∈ l, ∀ q ∈ l, r p ≤ r q
  | [], h => absurd rfl h
  | [x], _ => ⟨x, by simp, fun q hq => by simp at hq; rw [hq]; exact Int.le_refl _⟩
  | x :: y :: l, _ => by
    obtain ⟨p, h1, h2⟩ := exists_min r (l := y :: l) (by simp)
    by_cases h : r x ≤ r p
    · exact ⟨x, List.mem_cons_self, fun q hq => by
        rcases List.mem_cons.mp hq with e | hq
        · rw [e]; exact Int.le_refl _
        · exact Int.le_trans h (h2 q hq)⟩
    · exact ⟨p, List.mem_cons_of_mem _ h1, fun q hq => by
        rcases List.mem_cons.mp hq with e | hq
        · rw [e]; omega
        · exact h2 q hq⟩
/-- each arrow leads upwards -/
def Acyc (l : List Pr) : Prop := ∃ r : Int → Int, ∀ q ∈ l, r q.1 < r q.2
theorem ready_some {l : List Pr} (ha : Acyc l) {left : List Int} (h : left ≠ []) : left.filter (fun p => !hot l left p) ≠ [] := by
  obtain ⟨r, hr⟩ := ha
  obtain ⟨p, h1, h2⟩ := exists_min r h
  have : p ∈ left.filter (fun p => !hot l left p) := by
    rw [List.mem_filter]
    refine ⟨h1, ?_⟩
    cases k : hot l left p with
    | false => rfl
    | true =>
      unfold hot at k
      obtain ⟨q, hq, hc⟩ := List.any_eq_true.mp k
      obtain ⟨c1, c2⟩ := Bool.and_eq_true_iff.mp hc
      have c1 := of_decide_eq_true c1
      have c2 := of_decide_eq_true c2
      have a1 := hr q hq
      have a2 := h2 q.1 c2
      rw [c1] at a1
      omega
  intro e
  rw [e] at this
  cases this
theorem intsOf_map : ∀ l : List Int, intsOf (l.map D.int) = some l
  | [] => rfl
  | i :: l => by simp only [List.map_cons, intsOf, intsOf_map l]; rfl
def of_t : FT := cmpT (cm2 fun i j => decide (j < i)) (clF lenD (consA (varF 1) nilA)) (shF (.int 0))
noncomputable def of_b : FS := seqF (setF 3 (compF true [4] (seqI (varF 1)) (gnF 4) (notT (truF (clF anyD (consA (compF true [5, 6] (seqI (unF (fldD 0 1) (varF 0))) (gtF (gconsF (gnF 5) (gconsF (gnF 6) gnilF))) yesT (andF (binF (oBl eqD) (varF 6) (varF 4)) (binF (oBl (inD false)) (varF 5) (varF 1)))) nilA)))) (varF 4)))
    (seqF (ifS (cmpT eqD (clF lenD (consA (varF 3) nilA)) (shF (.int 0))) (retF (shF .non)) nxF)
    (seqF (exprF (mtF 2 appM (consA (binF ixD (varF 3) (shF (.int 0))) nilA)))
    (exprF (mtF 1 remM (consA (binF ixD (varF 3) (shF (.int 0))) nilA)))))
theorem of_loop {l : List Pr} (ha : Acyc l) (hl : l.length ≤ 1000000) (n : Int) : ∀ (k : Nat) (left fnd : List Int) (e3 : Ent), (e3 = .no ∨ ∃ d, e3 = .own d) → left.length ≤ k → fnd.length + left.length ≤ 1000 → ∃ (f2 : List Int) (e3' : Ent) (left' : List Int), whileN of_t of_b (k + 1) [.sh (webD n l), .own (.lst (left.map D.int)), .own (.lst (fnd.map D.int)), e3, .no, .no, .no] = some (.nx [.sh (webD n l), .own (.lst (left'.map D.int)), .own (.lst (f2.map D.int)), e3', .no, .no, .no])
  | k, [], fnd, e3, _, _, _ => ⟨fnd, e3, [], by unfold whileN; simp only [runF, ini, fin, retF, exprF, setF, nxF, seqF, ifS, bS_nx, bS_rt, bS, bES, bES_ok, andF, orF, unF, notF, negF, varF, shF, bE, bE_ok, bEt, bT, bA, bA_ok, peek, peeks, store, stores, put, free, Val.norm, truthD, consA, nilA, tupF_ap, lstF_ap, dispF, clF, caF, chF, chT, binF, cmpT, oBl, cm2, on1, truF, notT, andT, orT, ifF, lstFreeV, lstFree, lstFrees, List.map, List.append, List.replicate, List.length, List.getElem?_cons_zero, List.getElem?_cons_succ, List.cons_append, List.nil_append, List.set_cons_zero, List.set_cons_succ, Option.map, Option.bind, if_true, Nat.reduceAdd, Nat.reduceSub, Nat.zero_add, List.length_cons, List.length_nil, Bool.not_true, Bool.not_false, Bool.true_and, reduceIte, Bool.false_eq_true, if_false, Option.map_some, Option.bind_some, Nat.sub_self, List.replicate_zero, List.replicate_succ, Nat.succ_sub_succ_eq_sub, Nat.sub_zero, of_t, lenD]; rfl⟩
  | 0, x :: left, fnd, e3, _, h, _ => by simp at h
  | k + 1, x :: left, fnd, e3, h3, h, hz => by
    have ht : of_t [.sh (webD n l), .own (.lst ((x :: left).map D.int)), .own (.lst (fnd.map D.int)), e3, .no, .no, .no] = some (.ok true [.sh (webD n l), .own (.lst ((x :: left).map D.int)), .own (.lst (fnd.map D.int)), e3, .no, .no, .no]) := by
      simp only [runF, ini, fin, retF, exprF, setF, nxF, seqF, ifS, bS_nx, bS_rt, bS, bES, bES_ok, andF, orF, unF, notF, negF, varF, shF, bE, bE_ok, bEt, bT, bA, bA_ok, peek, peeks, store, stores, put, free, Val.norm, truthD, consA, nilA, tupF_ap, lstF_ap, dispF, clF, caF, chF, chT, binF, cmpT, oBl, cm2, on1, truF, notT, andT, orT, ifF, lstFreeV, lstFree, lstFrees, List.map, List.append, List.replicate, List.length, List.getElem?_cons_zero, List.getElem?_cons_succ, List.cons_append, List.nil_append, List.set_cons_zero, List.set_cons_succ, Option.map, Option.bind, if_true, Nat.reduceAdd, Nat.reduceSub, Nat.zero_add, List.length_cons, List.length_nil, Bool.not_true, Bool.not_false, Bool.true_and, reduceIte, Bool.false_eq_true, if_false, Option.map_some, Option.bind_some, Nat.sub_self, List.replicate_zero, List.replicate_succ, Nat.succ_sub_succ_eq_sub, Nat.sub_zero, of_t, lenD]
      have : decide ((0 : Int) < ((left.length + 1 : Nat) : Int)) = true := by rw [decide_eq_true_iff]; omega
      simp [this]
    have hne := ready_some ha (left := x :: left) (by simp)
    cases hr : (x :: left).filter (fun p => !hot l (x :: left) p) with
    | nil => exact absurd hr hne
    | cons p rd =>
      have hp : p ∈ x :: left := (List.mem_filter.mp (by rw [hr]; exact List.mem_cons_self)).1
      have hj : ∃ j, (x :: left).findIdx? (· == p) = some j ∧ j < (x :: left).length := by
        cases q : (x :: left).findIdx? (· == p) with
        | some j => exact ⟨j, rfl, (List.findIdx?_eq_some_iff_getElem.mp q).1⟩
        | none =>
          have := List.findIdx?_eq_none_iff.mp q p hp
          simp at this
      obtain ⟨j, hj1, hj2⟩ := hj
      have hc := of_ready l (x :: left) hl (by omega) (.own (.lst (fnd.map D.int))) e3 .no .no .no (.inl rfl) (.inl rfl) (.inl rfl) n
      rw [hr] at hc
      have hb : of_b [.sh (webD n l), .own (.lst ((x :: left).map D.int)), .own (.lst (fnd.map D.int)), e3, .no, .no, .no] = some (.nx [.sh (webD n l), .own (.lst (((x :: left).eraseIdx j).map D.int)), .own (.lst ((fnd ++ [p]).map D.int)), .own (.lst ((p :: rd).map D.int)), .no, .no, .no]) := by
        have g0 : L2.atI (D.int p :: rd.map D.int) 0 = some (.int p) := atI_nat (j := 0) rfl
        have hf : fnd.length < 1000000 := by simp at hz; omega
        have dn : decide ((((rd.length + 1 : Nat)) : Int) = 0) = false := by rw [decide_eq_false_iff_not]; omega
        have gi : intsOf (D.int x :: left.map D.int) = some (x :: left) := intsOf_map (x :: left)
        have ge : (D.int x :: left.map D.int).eraseIdx j = ((x :: left).eraseIdx j).map D.int := erase_map (l := x :: left)
        have gf : fnd.map D.int ++ [D.int p] = (fnd ++ [p]).map D.int := by simp
        rcases h3 with rfl | ⟨d3, rfl⟩
        · unfold of_b
          unfold seqF setF
          rw [hc]
          simp only [runF, ini, fin, retF, exprF, setF, nxF, seqF, ifS, bS_nx, bS_rt, bS, bES, bES_ok, andF, orF, unF, notF, negF, varF, shF, bE, bE_ok, bEt, bT, bA, bA_ok, peek, peeks, store, stores, put, free, Val.norm, truthD, consA, nilA, tupF_ap, lstF_ap, dispF, clF, caF, chF, chT, binF, cmpT, oBl, cm2, on1, truF, notT, andT, orT, ifF, lstFreeV, lstFree, lstFrees, List.map, List.append, List.replicate, List.length, List.getElem?_cons_zero, List.getElem?_cons_succ, List.cons_append, List.nil_append, List.set_cons_zero, List.set_cons_succ, Option.map, Option.bind, if_true, Nat.reduceAdd, Nat.reduceSub, Nat.zero_add, List.length_cons, List.length_nil, Bool.not_true, Bool.not_false, Bool.true_and, reduceIte, Bool.false_eq_true, if_false, Option.map_some, Option.bind_some, Nat.sub_self, List.replicate_zero, List.replicate_succ, Nat.succ_sub_succ_eq_sub, Nat.sub_zero, lenD, eqD_int, mtF, isLst, lstAt, appM, remM, lstSet, ixD, dn, g0, Option.isSome, List.length_map, hf, gi, hj1, ge, gf]
        · unfold of_b
          unfold seqF setF
          rw [hc]
          simp only [runF, ini, fin, retF, exprF, setF, nxF, seqF, ifS, bS_nx, bS_rt, bS, bES, bES_ok, andF, orF, unF, notF, negF, varF, shF, bE, bE_ok, bEt, bT, bA, bA_ok, peek, peeks, store, stores, put, free, Val.norm, truthD, consA, nilA, tupF_ap, lstF_ap, dispF, clF, caF, chF, chT, binF, cmpT, oBl, cm2, on1, truF, notT, andT, orT, ifF, lstFreeV, lstFree, lstFrees, List.map, List.append, List.replicate, List.length, List.getElem?_cons_zero, List.getElem?_cons_succ, List.cons_append, List.nil_append, List.set_cons_zero, List.set_cons_succ, Option.map, Option.bind, if_true, Nat.reduceAdd, Nat.reduceSub, Nat.zero_add, List.length_cons, List.length_nil, Bool.not_true, Bool.not_false, Bool.true_and, reduceIte, Bool.false_eq_true, if_false, Option.map_some, Option.bind_some, Nat.sub_self, List.replicate_zero, List.replicate_succ, Nat.succ_sub_succ_eq_sub, Nat.sub_zero, lenD, eqD_int, mtF, isLst, lstAt, appM, remM, lstSet, ixD, dn, g0, Option.isSome, List.length_map, hf, gi, hj1, ge, gf]
      obtain ⟨f2, e3', left', h1⟩ := of_loop ha hl n k ((x :: left).eraseIdx j) (fnd ++ [p]) (.own (.lst ((p :: rd).map D.int))) (.inr ⟨_, rfl⟩) (by rw [List.length_eraseIdx_of_lt hj2]; simp at h ⊢; omega) (by rw [List.length_eraseIdx_of_lt hj2]; simp at hz ⊢; omega)
      refine ⟨f2, e3', left', ?_⟩
      unfold whileN
      rw [ht]
      dsimp only
      rw [hb]
      exact h1

theorem rangeD_map (n : Int) : rangeD 0 n = ((List.range n.toNat).map fun (i : Nat) => (i : Int)).map D.int := by
  unfold rangeD
  rw [List.map_map]
  simp [Function.comp_def]
theorem ok_order_from {n : Int} {l : List Pr} (ha : Acyc l) (hl : l.length ≤ 1000000) (hn : 0 ≤ n ∧ n ≤ 100) : ∃ f2 : List Int, f_Web_order_from [webD n l] = some (.ok (.fr (.lst (f2.map D.int)))) := by
  have hr : n ≤ 1000000 ∧ -1000000 ≤ n := by omega
  obtain ⟨f2, e3, left', h1⟩ := of_loop ha hl n n.toNat ((List.range n.toNat).map fun (i : Nat) => (i : Int)) [] .no (.inl rfl) (by simp) (by simp; omega)
  have hw := whileF_of h1
  refine ⟨f2, ?_⟩
  simp only [runF, ini, fin, retF, exprF, setF, nxF, seqF, ifS, bS_nx, bS_rt, bS, bES, bES_ok, andF, orF, unF, notF, negF, varF, shF, bE, bE_ok, bEt, bT, bA, bA_ok, peek, peeks, store, stores, put, free, Val.norm, truthD, consA, nilA, tupF_ap, lstF_ap, dispF, clF, caF, chF, chT, binF, cmpT, oBl, cm2, on1, truF, notT, andT, orT, ifF, lstFreeV, lstFree, lstFrees, List.map, List.append, List.replicate, List.length, List.getElem?_cons_zero, List.getElem?_cons_succ, List.cons_append, List.nil_append, List.set_cons_zero, List.set_cons_succ, Option.map, Option.bind, if_true, Nat.reduceAdd, Nat.reduceSub, Nat.zero_add, List.length_cons, List.length_nil, Bool.not_true, Bool.not_false, Bool.true_and, reduceIte, Bool.false_eq_true, if_false, Option.map_some, Option.bind_some, Nat.sub_self, List.replicate_zero, List.replicate_succ, Nat.succ_sub_succ_eq_sub, Nat.sub_zero, f_Web_order_from, g_Web_order_from, parF, par2, lrgD, fldD, hr, and_self, rangeD_map]
  have hw : whileF of_t of_b [.sh (webD n l), .own (.lst (((List.range n.toNat).map fun (i : Nat) => (i : Int)).map D.int)), .own (.lst []), .no, .no, .no, .no] = _ := hw
  simp only [runF, ini, fin, retF, exprF, setF, nxF, seqF, ifS, bS_nx, bS_rt, bS, bES, bES_ok, andF, orF, unF, notF, negF, varF, shF, bE, bE_ok, bEt, bT, bA, bA_ok, peek, peeks, store, stores, put, free, Val.norm, truthD, consA, nilA, tupF_ap, lstF_ap, dispF, clF, caF, chF, chT, binF, cmpT, oBl, cm2, on1, truF, notT, andT, orT, ifF, lstFreeV, lstFree, lstFrees, List.map, List.append, List.replicate, List.length, List.getElem?_cons_zero, List.getElem?_cons_succ, List.cons_append, List.nil_append, List.set_cons_zero, List.set_cons_succ, Option.map, Option.bind, if_true, Nat.reduceAdd, Nat.reduceSub, Nat.zero_add, List.length_cons, List.length_nil, Bool.not_true, Bool.not_false, Bool.true_and, reduceIte, Bool.false_eq_true, if_false, Option.map_some, Option.bind_some, Nat.sub_self, List.replicate_zero, List.replicate_succ, Nat.succ_sub_succ_eq_sub, Nat.sub_zero, of_t, of_b] at hw
  rw [hw]
  simp only [runF, ini, fin, retF, exprF, setF, nxF, seqF, ifS, bS_nx, bS_rt, bS, bES, bES_ok, andF, orF, unF, notF, negF, varF, shF, bE, bE_ok, bEt, bT, bA, bA_ok, peek, peeks, store, stores, put, free, Val.norm, truthD, consA, nilA, tupF_ap, lstF_ap, dispF, clF, caF, chF, chT, binF, cmpT, oBl, cm2, on1, truF, notT, andT, orT, ifF, lstFreeV, lstFree, lstFrees, List.map, List.append, List.replicate, List.length, List.getElem?_cons_zero, List.getElem?_cons_succ, List.cons_append, List.nil_append, List.set_cons_zero, List.set_cons_succ, Option.map, Option.bind, if_true, Nat.reduceAdd, Nat.reduceSub, Nat.zero_add, List.length_cons, List.length_nil, Bool.not_true, Bool.not_false, Bool.true_and, reduceIte, Bool.false_eq_true, if_false, Option.map_some, Option.bind_some, Nat.sub_self, List.replicate_zero, List.replicate_succ, Nat.succ_sub_succ_eq_sub, Nat.sub_zero]
/-! ### Web(..) -/
theorem tyD_tree {d : D} (h : tree d = true) : (tyD d).isSome = true := by cases d <;> simp_all [tree, tyD]
/-- the arrows are of places -/
def Inr (n : Int) (l : List Pr) : Prop := ∀ q ∈ l, 0 ≤ q.1 ∧ q.1 < n ∧ 0 ≤ q.2 ∧ q.2 < n ∧ q.1 ≠ q.2
theorem row_ok {n : Int} {q : Pr} (h : 0 ≤ q.1 ∧ q.1 < n ∧ 0 ≤ q.2 ∧ q.2 < n ∧ q.1 ≠ q.2) : rowB (eA q) 2 0 (n - 1) = true := by
  unfold rowB eA isTup
  simp [within]
  omega
theorem init_for {n : Int} {l : List Pr} (hi : Inr n l) : ∀ (m : List Pr) (i : Nat) (e3 e4 : Ent), (∀ q ∈ m, q ∈ l) → opn (some e3) → opn (some e4) → ∃ e3' e4', opn (some e3') ∧ opn (some e4') ∧
    forL (gtF (gconsF (gnF 3) (gconsF (gnF 4) gnilF))) (ifS (orT (notT (truF (caF f_is_row (consA (varF 4) (consA (shF (.int 2)) (consA (shF (.int 0)) (consA (binF subD (varF 1) (shF (.int 1))) nilA))))))) (cmpT eqD (binF ixD (varF 4) (shF (.int 0))) (binF ixD (varF 4) (shF (.int 1))))) (fun _ => none) nxF)
      ((List.range' i m.length).zipWith (fun i q => .tup [.int (i : Nat), eA q]) m) [.slf 0 [] [], .sh (.int n), .sh (eL l), e3, e4] = some (.nx [.slf 0 [] [], .sh (.int n), .sh (eL l), e3', e4'])
  | [], i, e3, e4, _, h3, h4 => ⟨e3, e4, h3, h4, by simp [forL]⟩
  | q :: m, i, e3, e4, hm, h3, h4 => by
    obtain ⟨e3', e4', g1, g2, g3⟩ := init_for hi m (i + 1) (.sh (.int (i : Nat))) (.sh (eA q)) (fun x hx => hm x (List.mem_cons_of_mem _ hx)) (.inr ⟨_, rfl⟩) (.inr ⟨_, rfl⟩)
    refine ⟨e3', e4', g1, g2, ?_⟩
    have hq := hi q (hm q List.mem_cons_self)
    have hrow : f_is_row [eA q, .int 2, .int 0, .int (n - 1)] = some (.ok (.sh (.bl true))) := by
      rw [ok_is_row (tyD_tree (tree_eA q)) (fun ds hd => by
        cases hd
        exact ⟨fun e he => by
          simp at he
          rcases he with rfl | rfl <;> rfl, by simp⟩), row_ok hq]
    have f3 : free [.slf 0 [] [], .sh (.int n), .sh (eL l), e3, e4] 3 = true := opn_free (i := 3) h3
    have hne : decide (q.1 = q.2) = false := decide_eq_false hq.2.2.2.2
    rw [List.length_cons, List.range'_succ, List.zipWith_cons_cons]
    unfold forL
    have hg : gtF (gconsF (gnF 3) (gconsF (gnF 4) gnilF)) (.tup [.int (i : Nat), eA q]) [.slf 0 [] [], .sh (.int n), .sh (eL l), e3, e4] = some [.slf 0 [] [], .sh (.int n), .sh (eL l), .sh (.int (i : Nat)), .sh (eA q)] := by
      have f4 : free [.slf 0 [] [], .sh (.int n), .sh (eL l), .sh (.int (i : Nat)), e4] 4 = true := opn_free (i := 4) h4
      unfold gtF gconsF gnF put
      simp only [f3, if_true, Option.bind, List.set_cons_succ, List.set_cons_zero]
      simp only [f4, if_true, gnilF]
    rw [hg]
    dsimp only
    have hb : ifS (orT (notT (truF (caF f_is_row (consA (varF 4) (consA (shF (.int 2)) (consA (shF (.int 0)) (consA (binF subD (varF 1) (shF (.int 1))) nilA))))))) (cmpT eqD (binF ixD (varF 4) (shF (.int 0))) (binF ixD (varF 4) (shF (.int 1))))) (fun _ => none) nxF [.slf 0 [] [], .sh (.int n), .sh (eL l), .sh (.int (i : Nat)), .sh (eA q)] = some (.nx [.slf 0 [] [], .sh (.int n), .sh (eL l), .sh (.int (i : Nat)), .sh (eA q)]) := by
      have i0 : ixD (eA q) (.int 0) = some (.sh (.int q.1)) := rfl
      have i1 : ixD (eA q) (.int 1) = some (.sh (.int q.2)) := rfl
      simp only [runF, ini, fin, retF, exprF, setF, nxF, seqF, ifS, bS_nx, bS_rt, bS, bES, bES_ok, andF, orF, unF, notF, negF, varF, shF, bE, bE_ok, bEt, bT, bA, bA_ok, peek, peeks, store, stores, put, free, Val.norm, truthD, consA, nilA, tupF_ap, lstF_ap, dispF, clF, caF, chF, chT, binF, cmpT, oBl, cm2, on1, truF, notT, andT, orT, ifF, lstFreeV, lstFree, lstFrees, List.map, List.append, List.replicate, List.length, List.getElem?_cons_zero, List.getElem?_cons_succ, List.cons_append, List.nil_append, List.set_cons_zero, List.set_cons_succ, Option.map, Option.bind, if_true, Nat.reduceAdd, Nat.reduceSub, Nat.zero_add, List.length_cons, List.length_nil, Bool.not_true, Bool.not_false, Bool.true_and, reduceIte, Bool.false_eq_true, if_false, Option.map_some, Option.bind_some, Nat.sub_self, List.replicate_zero, List.replicate_succ, Nat.succ_sub_succ_eq_sub, Nat.sub_zero, subD, int2, hrow, i0, i1, eqD_int, hne]
    rw [hb]
    exact g3
theorem enumDs_zip {α : Type} (f : α → D) : ∀ (l : List α), enumDs (l.map f) = (List.range' 0 l.length).zipWith (fun i q => .tup [.int (i : Nat), f q]) l := by
  intro l
  unfold enumDs
  apply List.ext_getElem
  · simp
  · intro i h1 h2
    have hi : i < l.length := by simpa using h1
    simp [hi]
theorem lstFrees_ints : ∀ l : List Int, lstFrees (l.map D.int) = true
  | [] => rfl
  | i :: l => by simp only [List.map_cons, lstFrees, lstFree, lstFrees_ints l]; rfl
noncomputable def wi_b : FS := (ifS (orT (notT (truF (caF f_is_row (consA (varF 4) (consA (shF (.int 2)) (consA (shF (.int 0)) (consA (binF subD (varF 1) (shF (.int 1))) nilA))))))) (cmpT eqD (binF ixD (varF 4) (shF (.int 0))) (binF ixD (varF 4) (shF (.int 1))))) (fun _ => none) nxF)
theorem ok_init {n : Int} {l : List Pr} (hn : 1 ≤ n ∧ n ≤ 8) (hl : l.length ≤ 14) (hi : Inr n l) (ha : Acyc l) : f_Web___init__ [.int n, eL l] = some [.int n, eL l] := by
  obtain ⟨e3, e4, o3, o4, hloop⟩ := init_for hi l 0 .no .no (fun _ h => h) (.inl rfl) (.inl rfl)
  obtain ⟨f2, hof⟩ := ok_order_from ha (by omega) (n := n) (by omega)
  have hw : f_is_within [.int n, .int 1, .int 8] = some (.ok (.sh (.bl true))) := by
    rw [ok_is_within rfl]
    simp [within, hn]
  have ht : f_is_tuple [eL l, .int 0, .int 14] = some (.ok (.sh (.bl true))) := by
    rw [ok_is_tuple rfl]
    simp [isTup, eL]
    omega
  have hz := enumDs_zip eA l
  unfold f_Web___init__ runM
  rw [if_pos (by simp)]
  unfold g_Web___init__
  have hf : forF (enI (consA (varF 2) nilA)) (gtF (gconsF (gnF 3) (gconsF (gnF 4) gnilF))) (ifS (orT (notT (truF (caF f_is_row (consA (varF 4) (consA (shF (.int 2)) (consA (shF (.int 0)) (consA (binF subD (varF 1) (shF (.int 1))) nilA))))))) (cmpT eqD (binF ixD (varF 4) (shF (.int 0))) (binF ixD (varF 4) (shF (.int 1))))) (fun _ => none) nxF) [.slf 0 [] [], .sh (.int n), .sh (eL l), .no, .no] = some (.nx [.slf 0 [] [], .sh (.int n), .sh (eL l), e3, e4]) := by
    unfold forF enI
    simp only [runF, ini, fin, retF, exprF, setF, nxF, seqF, ifS, bS_nx, bS_rt, bS, bES, bES_ok, andF, orF, unF, notF, negF, varF, shF, bE, bE_ok, bEt, bT, bA, bA_ok, peek, peeks, store, stores, put, free, Val.norm, truthD, consA, nilA, tupF_ap, lstF_ap, dispF, clF, caF, chF, chT, binF, cmpT, oBl, cm2, on1, truF, notT, andT, orT, ifF, lstFreeV, lstFree, lstFrees, List.map, List.append, List.replicate, List.length, List.getElem?_cons_zero, List.getElem?_cons_succ, List.cons_append, List.nil_append, List.set_cons_zero, List.set_cons_succ, Option.map, Option.bind, if_true, Nat.reduceAdd, Nat.reduceSub, Nat.zero_add, List.length_cons, List.length_nil, Bool.not_true, Bool.not_false, Bool.true_and, reduceIte, Bool.false_eq_true, if_false, Option.map_some, Option.bind_some, Nat.sub_self, List.replicate_zero, List.replicate_succ, Nat.succ_sub_succ_eq_sub, Nat.sub_zero, eL, opsOf, hz, frz]
    exact hloop
  have c1 : (([] : List Str).contains "places") = false := rfl
  have c2 : ((["places"] : List Str).contains "arrows") = false := by decide
  simp only [runF, ini, fin, retF, exprF, setF, nxF, seqF, ifS, bS_nx, bS_rt, bS, bES, bES_ok, andF, orF, unF, notF, negF, varF, shF, bE, bE_ok, bEt, bT, bA, bA_ok, peek, peeks, store, stores, put, free, Val.norm, truthD, consA, nilA, tupF_ap, lstF_ap, dispF, clF, caF, chF, chT, binF, cmpT, oBl, cm2, on1, truF, notT, andT, orT, ifF, lstFreeV, lstFree, lstFrees, List.map, List.append, List.replicate, List.length, List.getElem?_cons_zero, List.getElem?_cons_succ, List.cons_append, List.nil_append, List.set_cons_zero, List.set_cons_succ, Option.map, Option.bind, if_true, Nat.reduceAdd, Nat.reduceSub, Nat.zero_add, List.length_cons, List.length_nil, Bool.not_true, Bool.not_false, Bool.true_and, reduceIte, Bool.false_eq_true, if_false, Option.map_some, Option.bind_some, Nat.sub_self, List.replicate_zero, List.replicate_succ, Nat.succ_sub_succ_eq_sub, Nat.sub_zero, iniM, hw, ht, hf, setFldF, slfAt, c1, c2, meSF, nms_Web, hof]
  have c3 : ¬ (Str.ofString "arrows" = Str.ofString "places") := by decide
  have hof : f_Web_order_from [.ins 0 [.int n, eL l]] = some (.ok (.fr (.lst (f2.map D.int)))) := hof
  have fr : lstFrees (f2.map D.int) = true := lstFrees_ints f2
  simp [isD, c3, hof, fr]
end K94
namespace K94
open PySem PySem.Spec L2 Ev Ma
/-! ### places named anew -/
def pl (o : List Int) (i : Int) : Int := o[i.toNat]?.getD 0
def ap (o : List Int) (q : Pr) : Pr := (pl o q.1, pl o q.2)
theorem ix_pl {o : List Int} {i : Int} (h : 0 ≤ i ∧ i < o.length) : ixD (eO o) (.int i) = some (.sh (.int (pl o i))) := by
  obtain ⟨k, rfl⟩ := Int.eq_ofNat_of_zero_le h.1
  have hk : k < o.length := by omega
  have : L2.atI (o.map D.int) (k : Int) = some (.int o[k]) := atI_nat (j := k) (by simp [hk])
  simp only [ixD, eO, this, Option.map_some, pl, Int.toNat_natCast]
  simp [hk]
theorem var_sh {env : List Ent} {i : Nat} {d : D} (h : env[i]? = some (.sh d)) : varF i env = some (.ok (.sh d) env) := by unfold varF; rw [h]
theorem called_comp {env : List Ent} {it : FI} {ops : List Nat} {o : List Int} {l : List Pr} {v j k : Nat} (hit : it env = some (.ok ops (l.map eA) env)) (hv : env[v]? = some (.sh (eO o))) (hj : opn env[j]?) (hk : opn env[k]?) (n1 : j ≠ k) (n2 : v ≠ j) (n3 : v ≠ k) (hl : l.length ≤ 1000000)
    (hr : ∀ q ∈ l, 0 ≤ q.1 ∧ q.1 < o.length ∧ 0 ≤ q.2 ∧ q.2 < o.length) :
    compF true [j, k] it (gtF (gconsF (gnF j) (gconsF (gnF k) gnilF))) yesT (tupF (consA (binF ixD (varF v) (varF j)) (consA (binF ixD (varF v) (varF k)) nilA))) env = some (.ok (.fr (.lst ((l.map (ap o)).map eA))) env) := by
  have := comp2 (j := j) (k := k) n1 (env := env) (it := it) (tt := yesT) (fe := tupF (consA (binF ixD (varF v) (varF j)) (consA (binF ixD (varF v) (varF k)) nilA))) (ops := ops) (ds := l.map eA) (x := fun d => .int (fst2 d)) (y := fun d => .int (snd2 d)) (t := fun _ => true)
    (h := fun d => eA (ap o (fst2 d, snd2 d))) hit hj hk (by simpa using hl) (fun d hd => ?_)
  · rw [filter_true] at this
    rw [this, List.map_map, List.map_map]
    rfl
  · obtain ⟨q, hq, rfl⟩ := List.mem_map.mp hd
    obtain ⟨h1, h2, h3, h4⟩ := hr q hq
    refine ⟨rfl, rfl, fun _ => ⟨_, ?_, .inl rfl⟩⟩
    have kl : k < env.length := by rcases hk with h | ⟨d, h⟩ <;> exact (List.getElem?_eq_some_iff.mp h).1
    have jl : j < env.length := by rcases hj with h | ⟨d, h⟩ <;> exact (List.getElem?_eq_some_iff.mp h).1
    generalize he : (env.set j (.sh (.int (fst2 (eA q))))).set k (.sh (.int (snd2 (eA q)))) = env'
    have ev : varF v env' = some (.ok (.sh (eO o)) env') := var_sh (by rw [← he, List.getElem?_set_ne (Ne.symm n3), List.getElem?_set_ne (Ne.symm n2)]; exact hv)
    have ej : varF j env' = some (.ok (.sh (.int q.1)) env') := var_sh (by rw [← he, List.getElem?_set_ne (Ne.symm n1), List.getElem?_set_self jl]; rfl)
    have ek : varF k env' = some (.ok (.sh (.int q.2)) env') := var_sh (by rw [← he, List.getElem?_set_self (by simpa using kl)]; rfl)
    have i1 := ix_pl (o := o) ⟨h1, h2⟩
    have i2 := ix_pl (o := o) ⟨h3, h4⟩
    simp only [tupF, dispF, consA, nilA, binF, ev, ej, ek, bE_ok, peek, i1, i2, Option.map_some, Val.norm, bA, stores, store, ap, fst2_eA, snd2_eA, eA]
    rfl
theorem all_pairs (l : List Pr) : sortable (l.map eA) = true := by
  unfold sortable
  rw [Bool.and_eq_true, Bool.and_eq_true]
  refine ⟨⟨?_, ?_⟩, ?_⟩
  · rw [List.all_map, List.all_eq_true]
    intro a _
    rw [Function.comp_apply, List.all_map, List.all_eq_true]
    intro b _
    rw [Function.comp_apply, pyOf_eA, pyOf_eA]
    rfl
  · rw [Bool.or_eq_true, Bool.or_eq_true]
    left
    left
    rw [List.all_map, List.all_eq_true]
    intro a _
    rfl
  · rw [List.all_map, List.all_eq_true]
    intro a _
    rw [Function.comp_apply, pyOf_eA]
    simp [PyData.depth, PyData.depthAll]
theorem sort_lst {l : List Pr} (h : l.length ≤ 1000000) : sortD [.lst (l.map eA)] = some (.fr (.lst ((srt l).map eA))) := by
  unfold sortD
  dsimp only
  rw [if_pos ⟨by rw [py_As]; rfl, all_pairs l, by simpa using h⟩, srt_map]
theorem sort_tup {l : List Pr} (h : l.length ≤ 1000000) : sortD [eL l] = some (.fr (.lst ((srt l).map eA))) := by
  unfold sortD eL
  dsimp only
  rw [if_pos ⟨by rw [py_As]; rfl, all_pairs l, by simpa using h⟩, srt_map]
theorem ok_called {l : List Pr} {o : List Int} (hl : l.length ≤ 1000000) (hr : ∀ q ∈ l, 0 ≤ q.1 ∧ q.1 < o.length ∧ 0 ≤ q.2 ∧ q.2 < o.length) : f__law_called [eL l, eO o] = some (.ok (.sh (eL (srt (l.map (ap o)))))) := by
  have hc := called_comp (env := [.sh (eL l), .sh (eO o), .no, .no]) (it := seqI (varF 0)) (ops := []) (o := o) (l := l) (v := 1) (j := 2) (k := 3) (by simp [seqI, varF, peek, opsOf, eL]) rfl (.inl rfl) (.inl rfl) (by decide) (by decide) (by decide) hl hr
  have hs := sort_lst (l := l.map (ap o)) (by simpa using hl)
  simp only [runF, ini, fin, retF, exprF, setF, nxF, seqF, ifS, bS_nx, bS_rt, bS, bES, bES_ok, andF, orF, unF, notF, negF, varF, shF, bE, bE_ok, bEt, bT, bA, bA_ok, peek, peeks, store, stores, put, free, Val.norm, truthD, consA, nilA, tupF_ap, lstF_ap, dispF, clF, caF, chF, chT, binF, cmpT, oBl, cm2, on1, truF, notT, andT, orT, ifF, lstFreeV, lstFree, lstFrees, List.map, List.append, List.replicate, List.length, List.getElem?_cons_zero, List.getElem?_cons_succ, List.cons_append, List.nil_append, List.set_cons_zero, List.set_cons_succ, Option.map, Option.bind, if_true, Nat.reduceAdd, Nat.reduceSub, Nat.zero_add, List.length_cons, List.length_nil, Bool.not_true, Bool.not_false, Bool.true_and, reduceIte, Bool.false_eq_true, if_false, Option.map_some, Option.bind_some, Nat.sub_self, List.replicate_zero, List.replicate_succ, Nat.succ_sub_succ_eq_sub, Nat.sub_zero, f__law_called, g__law_called, hc, hs, tupleD]
  rfl
end K94
namespace K94
open PySem PySem.Spec L2 Ev Ma
open PySem.W (keyToks keyToksAll)
/-! ### the orders of 1 to 4 places -/
def unI : D → Option Int
  | .int i => some i
  | _ => none
def unIs : List D → Option (List Int)
  | [] => some []
  | d :: r => match unI d, unIs r with
    | some i, some l => some (i :: l)
    | _, _ => none
def unO : D → Option (List Int)
  | .tup ds => unIs ds
  | _ => none
def unOs : List D → Option (List (List Int))
  | [] => some []
  | d :: r => match unO d, unOs r with
    | some i, some l => some (i :: l)
    | _, _ => none
theorem unIs_eq : ∀ {ds : List D} {l : List Int}, unIs ds = some l → ds = l.map .int
  | [], l, h => by cases h; rfl
  | d :: r, l, h => by
    unfold unIs at h
    cases k1 : unI d with
    | none => rw [k1] at h; cases h
    | some i =>
      cases k2 : unIs r with
      | none => rw [k1, k2] at h; cases h
      | some m =>
        rw [k1, k2] at h
        cases h
        cases d with
        | int j => cases k1; rw [unIs_eq k2]; rfl
        | _ => cases k1
theorem unOs_eq : ∀ {ds : List D} {l : List (List Int)}, unOs ds = some l → ds = l.map eO
  | [], l, h => by cases h; rfl
  | d :: r, l, h => by
    unfold unOs at h
    cases k1 : unO d with
    | none => rw [k1] at h; cases h
    | some i =>
      cases k2 : unOs r with
      | none => rw [k1, k2] at h; cases h
      | some m =>
        rw [k1, k2] at h
        cases h
        cases d with
        | tup es => rw [unOs_eq k2, unIs_eq (show unIs es = some i from k1)]; rfl
        | _ => cases k1
def gives (r : Option Fo) (l : List (List Int)) : Bool := match r with
  | some (.ok (.fr (.lst ds))) => match unOs ds with
    | some m => m == l
    | none => false
  | _ => false
theorem gives_eq {r : Option Fo} {l : List (List Int)} (h : gives r l = true) : r = some (.ok (.fr (.lst (l.map eO)))) := by
  unfold gives at h
  split at h
  · split at h
    · rename_i m k
      rw [unOs_eq k, eq_of_beq h]
    · cases h
  · cases h
def pm : Nat → List (List Int)
  | 1 => [[0]]
  | 2 => [[0, 1], [1, 0]]
  | 3 => [[0, 1, 2], [0, 2, 1], [1, 0, 2], [1, 2, 0], [2, 0, 1], [2, 1, 0]]
  | 4 => [[0, 1, 2, 3], [0, 1, 3, 2], [0, 2, 1, 3], [0, 2, 3, 1], [0, 3, 1, 2], [0, 3, 2, 1], [1, 0, 2, 3], [1, 0, 3, 2], [1, 2, 0, 3], [1, 2, 3, 0], [1, 3, 0, 2], [1, 3, 2, 0], [2, 0, 1, 3], [2, 0, 3, 1], [2, 1, 0, 3], [2, 1, 3, 0], [2, 3, 0, 1], [2, 3, 1, 0], [3, 0, 1, 2], [3, 0, 2, 1], [3, 1, 0, 2], [3, 1, 2, 0], [3, 2, 0, 1], [3, 2, 1, 0]]
  | _ => []
theorem of1 : gives (f_orders_of [.int 1]) (pm 1) = true := by decide +kernel
theorem of2 : gives (f_orders_of [.int 2]) (pm 2) = true := by decide +kernel
theorem of3 : gives (f_orders_of [.int 3]) (pm 3) = true := by decide +kernel
theorem of4 : gives (f_orders_of [.int 4]) (pm 4) = true := by decide +kernel
theorem srt4 : ((pm 4).map eO).Pairwise (fun a b => leD a b = true) := by decide +kernel
noncomputable def lop : FS := (seqF (setF 1 (lstF (consA (tupF nilA) nilA)))
    (forF (rg1I (consA (varF 0) nilA)) (gnF 2) (seqF (setF 3 (lstF nilA))
    (seqF (forF (seqI (varF 1)) (gnF 4) (exprF (mtF 3 extM (consA (compF true [5] (rg1I (consA (binF addD (clF lenD (consA (varF 4) nilA)) (shF (.int 1))) nilA)) (gnF 5) yesT (binF addD (binF addD (slF (varF 4) noP (partF (varF 5))) (tupF (consA (varF 2) nilA))) (slF (varF 4) (partF (varF 5)) noP))) nilA))))
    (setF 1 (varF 3))))))
def lopB (o : Option So) (p : List (List Int)) : Bool := match o with
  | some (.nx e) => match (e[1]? : Option Ent) with
    | some (.sh (.lst ds)) => (toPys ds).isSome && sortable ds && match unOs ds with
      | some m => m.isPerm p
      | none => false
    | _ => false
  | _ => false
def loE (n : Int) : List Ent := [.sh (.int n), .no, .no, .no, .no, .no]
theorem lo1 : lopB (lop (loE 1)) (pm 1) = true := by decide +kernel
theorem lo2 : lopB (lop (loE 2)) (pm 2) = true := by decide +kernel
theorem lo3 : lopB (lop (loE 3)) (pm 3) = true := by decide +kernel
theorem lo4 : lopB (lop (loE 4)) (pm 4) = true := by decide +kernel
theorem srt_pm : ∀ n : Nat, n ≤ 4 → ((pm n).map eO).Pairwise (fun a b => leD a b = true) := by decide +kernel
theorem len_pm : ∀ n : Nat, n ≤ 4 → (pm n).length ≤ 24 := by decide +kernel
theorem tok_eO {a b : List Int} (h : keyToks (pyOf (eO a)) = keyToks (pyOf (eO b))) : a = b := by
  rw [pyOf_eO, pyOf_eO] at h
  exact tok_ints (by simpa [keyToks] using h)
theorem sort_pm {n : Nat} (h : n ≤ 4) {m : List (List Int)} (p : m.Perm (pm n)) : (m.map eO).mergeSort leD = (pm n).map eO := by
  rw [sort_perm (p.map eO) fun a ha b hb e => by
    obtain ⟨x, _, rfl⟩ := List.mem_map.mp ha
    obtain ⟨y, _, rfl⟩ := List.mem_map.mp hb
    rw [tok_eO e]]
  exact List.mergeSort_of_pairwise (srt_pm n h)
theorem lop_eq {n : Nat} (h : n ≤ 4) (k : lopB (lop (loE n)) (pm n) = true) : f__law_orders [.int n] = some (.ok (.fr (.lst ((pm n).map eO)))) := by
  cases q : lop (loE n) with
  | none => rw [q] at k; cases k
  | some o => cases o with
    | nx e =>
      rw [q] at k
      unfold lopB at k
      dsimp only at k
      split at k
      · rename_i ds he
        rw [Bool.and_eq_true, Bool.and_eq_true] at k
        obtain ⟨⟨k1, k2⟩, k3⟩ := k
        split at k3
        · rename_i m hm
          have pp := List.isPerm_iff.mp k3
          have ee := unOs_eq hm
          subst ee
          have hl : (m.map eO).length ≤ 1000000 := by
            have := pp.length_eq
            have := len_pm n h
            rw [List.length_map]; omega
          have hs : sortD [.lst (m.map eO)] = some (.fr (.lst ((pm n).map eO))) := by
            unfold sortD
            dsimp only
            rw [if_pos ⟨k1, k2, hl⟩, sort_pm h pp]
          have hv : varF 1 e = some (.ok (.sh (.lst (m.map eO))) e) := by unfold varF; rw [he]
          have hg : g__law_orders (loE n) = (retF (clF sortD (consA (varF 1) nilA))) e := by
            unfold lop seqF at q
            unfold g__law_orders seqF
            cases q1 : setF 1 (lstF (consA (tupF nilA) nilA)) (loE n) with
            | none => rw [q1] at q; cases q
            | some o1 => cases o1 with
              | nx e1 =>
                rw [q1] at q
                simp only [bS_nx] at q ⊢
                rw [show (forF _ _ _ e1) = some (.nx e) from q]
                rfl
              | _ => rw [q1] at q; cases q
          unfold f__law_orders runF
          rw [if_pos (by simp)]
          have hi : ini 6 [.int (n : Int)] = loE n := rfl
          rw [hi, hg]
          simp only [runF, ini, fin, retF, exprF, setF, nxF, seqF, ifS, bS_nx, bS_rt, bS, bES, bES_ok, andF, orF, unF, notF, negF, varF, shF, bE, bE_ok, bEt, bT, bA, bA_ok, peek, peeks, store, stores, put, free, Val.norm, truthD, consA, nilA, tupF_ap, lstF_ap, dispF, clF, caF, chF, chT, binF, cmpT, oBl, cm2, on1, truF, notT, andT, orT, ifF, lstFreeV, lstFree, lstFrees, List.map, List.append, List.replicate, List.length, List.getElem?_cons_zero, List.getElem?_cons_succ, List.cons_append, List.nil_append, List.set_cons_zero, List.set_cons_succ, Option.map, Option.bind, if_true, Nat.reduceAdd, Nat.reduceSub, Nat.zero_add, List.length_cons, List.length_nil, Bool.not_true, Bool.not_false, Bool.true_and, reduceIte, Bool.false_eq_true, if_false, Option.map_some, Option.bind_some, Nat.sub_self, List.replicate_zero, List.replicate_succ, Nat.succ_sub_succ_eq_sub, Nat.sub_zero, hv, he, hs]
        · cases k3
      · cases k
    | _ => rw [q] at k; cases k
theorem ok_orders_of {n : Nat} (h : 1 ≤ n ∧ n ≤ 4) : f_orders_of [.int n] = some (.ok (.fr (.lst ((pm n).map eO)))) := by
  have : n = 1 ∨ n = 2 ∨ n = 3 ∨ n = 4 := by omega
  rcases this with rfl | rfl | rfl | rfl
  · exact gives_eq of1
  · exact gives_eq of2
  · exact gives_eq of3
  · exact gives_eq of4
theorem ok_law_orders {n : Nat} (h : 1 ≤ n ∧ n ≤ 4) : f__law_orders [.int n] = some (.ok (.fr (.lst ((pm n).map eO)))) := by
  have : n = 1 ∨ n = 2 ∨ n = 3 ∨ n = 4 := by omega
  rcases this with rfl | rfl | rfl | rfl
  · exact lop_eq (by omega) lo1
  · exact lop_eq (by omega) lo2
  · exact lop_eq (by omega) lo3
  · exact lop_eq (by omega) lo4
end K94
namespace K94
open PySem PySem.Spec L2 Ev Ma
/-! ### orders, what they do to webs -/
def OrdP (n : Int) (o : List Int) : Prop := (o.length : Int) = n ∧ o.Nodup ∧ ∀ x ∈ o, 0 ≤ x ∧ x < n
theorem pl_get {n : Int} {o : List Int} (h : OrdP n o) {i : Int} (hi : 0 ≤ i ∧ i < n) : ∃ hk : i.toNat < o.length, pl o i = o[i.toNat] := by
  have hk : i.toNat < o.length := by have := h.1; omega
  exact ⟨hk, by simp [pl, hk]⟩
theorem pl_in {n : Int} {o : List Int} (h : OrdP n o) {i : Int} (hi : 0 ≤ i ∧ i < n) : 0 ≤ pl o i ∧ pl o i < n := by
  obtain ⟨hk, e⟩ := pl_get h hi
  rw [e]
  exact h.2.2 _ (List.getElem_mem hk)
theorem pl_inj {n : Int} {o : List Int} (h : OrdP n o) {i j : Int} (hi : 0 ≤ i ∧ i < n) (hj : 0 ≤ j ∧ j < n) (e : pl o i = pl o j) : i = j := by
  obtain ⟨hk, e1⟩ := pl_get h hi
  obtain ⟨hk2, e2⟩ := pl_get h hj
  rw [e1, e2] at e
  have q1 := h.2.1.idxOf_getElem _ hk
  have q2 := h.2.1.idxOf_getElem _ hk2
  rw [e, q2] at q1
  omega
theorem inr_ap {n : Int} {o : List Int} {l : List Pr} (h : OrdP n o) (hi : Inr n l) : Inr n (l.map (ap o)) := by
  intro q hq
  obtain ⟨p, hp, rfl⟩ := List.mem_map.mp hq
  obtain ⟨h1, h2, h3, h4, h5⟩ := hi p hp
  have a := pl_in h ⟨h1, h2⟩
  have b := pl_in h ⟨h3, h4⟩
  exact ⟨a.1, a.2, b.1, b.2, fun e => h5 (pl_inj h ⟨h1, h2⟩ ⟨h3, h4⟩ e)⟩
theorem inv_pl {n : Int} {o : List Int} (h : OrdP n o) {i : Int} (hi : 0 ≤ i ∧ i < n) : ((o.idxOf (pl o i) : Nat) : Int) = i := by
  obtain ⟨hk, e⟩ := pl_get h hi
  rw [e, h.2.1.idxOf_getElem _ hk]
  omega
theorem acyc_ap {n : Int} {o : List Int} {l : List Pr} (h : OrdP n o) (hi : Inr n l) (ha : Acyc l) : Acyc (l.map (ap o)) := by
  obtain ⟨r, hr⟩ := ha
  refine ⟨fun x => r (o.idxOf x : Nat), fun q hq => ?_⟩
  obtain ⟨p, hp, rfl⟩ := List.mem_map.mp hq
  obtain ⟨h1, h2, h3, h4, h5⟩ := hi p hp
  show r ((o.idxOf (pl o p.1) : Nat) : Int) < r ((o.idxOf (pl o p.2) : Nat) : Int)
  rw [inv_pl h ⟨h1, h2⟩, inv_pl h ⟨h3, h4⟩]
  exact hr p hp
theorem inr_perm {n : Int} {l m : List Pr} (p : l.Perm m) (h : Inr n l) : Inr n m := fun q hq => h q (p.mem_iff.mpr hq)
theorem acyc_perm {l m : List Pr} (p : l.Perm m) (h : Acyc l) : Acyc m := by
  obtain ⟨r, hr⟩ := h
  exact ⟨r, fun q hq => hr q (p.mem_iff.mpr hq)⟩
/-- a web that may be made -/
structure WebP (n : Int) (l : List Pr) : Prop where
  n1 : 1 ≤ n
  n2 : n ≤ 8
  len : l.length ≤ 14
  inr : Inr n l
  acy : Acyc l
theorem WebP.perm {n : Int} {l m : List Pr} (h : WebP n l) (p : l.Perm m) : WebP n m := ⟨h.n1, h.n2, by rw [← p.length_eq]; exact h.len, inr_perm p h.inr, acyc_perm p h.acy⟩
theorem WebP.srt {n : Int} {l : List Pr} (h : WebP n l) : WebP n (srt l) := h.perm (srt_perm l).symm
theorem WebP.ap {n : Int} {l : List Pr} (h : WebP n l) {o : List Int} (ho : OrdP n o) : WebP n (l.map (ap o)) := ⟨h.n1, h.n2, by rw [List.length_map]; exact h.len, inr_ap ho h.inr, acyc_ap ho h.inr h.acy⟩
theorem WebP.init {n : Int} {l : List Pr} (h : WebP n l) : f_Web___init__ [.int n, eL l] = some [.int n, eL l] := ok_init ⟨h.n1, h.n2⟩ h.len h.inr h.acy
theorem WebP.rng {n : Int} {l : List Pr} (h : WebP n l) {o : List Int} (ho : OrdP n o) : ∀ q ∈ l, 0 ≤ q.1 ∧ q.1 < o.length ∧ 0 ≤ q.2 ∧ q.2 < o.length := fun q hq => by
  obtain ⟨h1, h2, h3, h4, h5⟩ := h.inr q hq
  have := ho.1
  omega
theorem ok_with_places {n : Int} {l : List Pr} (h : WebP n l) {o : List Int} (ho : OrdP n o) : f_with_places [webD n l, eO o] = some (.ok (.sh (webD n (srt (l.map (ap o)))))) := by
  have hl : l.length ≤ 1000000 := by have := h.len; omega
  have hc := called_comp (env := [.sh (webD n l), .sh (eO o), .no, .no]) (it := seqI (unF (fldD 0 1) (varF 0))) (ops := []) (o := o) (l := l) (v := 1) (j := 2) (k := 3) (by simp [seqI, unF, varF, peek, opsOf, fldD, eL]) rfl (.inl rfl) (.inl rfl) (by decide) (by decide) (by decide) hl (h.rng ho)
  have hs := sort_lst (l := l.map (ap o)) (by simpa using hl)
  have hm := (h.ap ho).srt.init
  have ee : D.tup ((srt (l.map (ap o))).map eA) = eL (srt (l.map (ap o))) := rfl
  simp only [runF, ini, fin, retF, exprF, setF, nxF, seqF, ifS, bS_nx, bS_rt, bS, bES, bES_ok, andF, orF, unF, notF, negF, varF, shF, bE, bE_ok, bEt, bT, bA, bA_ok, peek, peeks, store, stores, put, free, Val.norm, truthD, consA, nilA, tupF_ap, lstF_ap, dispF, clF, caF, chF, chT, binF, cmpT, oBl, cm2, on1, truF, notT, andT, orT, ifF, lstFreeV, lstFree, lstFrees, List.map, List.append, List.replicate, List.length, List.getElem?_cons_zero, List.getElem?_cons_succ, List.cons_append, List.nil_append, List.set_cons_zero, List.set_cons_succ, Option.map, Option.bind, if_true, Nat.reduceAdd, Nat.reduceSub, Nat.zero_add, List.length_cons, List.length_nil, Bool.not_true, Bool.not_false, Bool.true_and, reduceIte, Bool.false_eq_true, if_false, Option.map_some, Option.bind_some, Nat.sub_self, List.replicate_zero, List.replicate_succ, Nat.succ_sub_succ_eq_sub, Nat.sub_zero, f_with_places, g_with_places, mkF, hc, hs, tupleD, fldD, ee, hm]
end K94
namespace K94
open PySem PySem.Spec L2 Ev Ma
def ordB (n : Nat) (o : List Int) : Bool := decide (o.length = n) && decide o.Nodup && o.all fun x => decide (0 ≤ x) && decide (x < n)
theorem ordB_ok {n : Nat} {o : List Int} (h : ordB n o = true) : OrdP n o := by
  unfold ordB at h
  rw [Bool.and_eq_true, Bool.and_eq_true] at h
  obtain ⟨⟨h1, h2⟩, h3⟩ := h
  refine ⟨by have := of_decide_eq_true h1; omega, of_decide_eq_true h2, fun x hx => ?_⟩
  have := List.all_eq_true.mp h3 x hx
  simpa using this
theorem pm_all : ∀ n : Nat, n ≤ 4 → (pm n).all (ordB n) = true := by decide +kernel
theorem pm_ord {n : Nat} (h : n ≤ 4) {o : List Int} (ho : o ∈ pm n) : OrdP n o := ordB_ok (List.all_eq_true.mp (pm_all n h) o ho)
theorem eq_lists (l m : List Pr) : eqD (.lst (l.map eA)) (.lst (m.map eA)) = some (decide (l = m)) := by
  obtain ⟨r, h1, h2⟩ := eqD_tree (a := .lst (l.map eA)) (b := .lst (m.map eA)) (by simp only [tree]; exact trees_map tree_eA l) (by simp only [tree]; exact trees_map tree_eA m)
    (by simp only [hi]; have := his_map (f := eA) (n := 1) (fun p => Nat.le_of_eq (hi_eA p)) l; omega) (by simp only [hi]; have := his_map (f := eA) (n := 1) (fun p => Nat.le_of_eq (hi_eA p)) m; omega)
  rw [h1]
  congr 1
  have : r = true ↔ l = m := h2.trans ⟨fun h => map_inj (fun _ _ => eA_inj) (D.lst.inj h), fun h => by rw [h]⟩
  cases r with
  | true => exact (decide_eq_true (this.mp rfl)).symm
  | false => exact (decide_eq_false fun e => by have := this.mpr e; cases this).symm
/-- o turns l into m -/
def okB (l m : List Pr) (o : List Int) : Bool := decide (srt (l.map (ap o)) = srt m)
def listI : D → List Int
  | .tup ds => ds.map intOf
  | _ => []
theorem listI_eO (o : List Int) : listI (eO o) = o := by
  unfold listI eO
  simp [List.map_map, Function.comp_def, intOf]
theorem free_eO : ∀ l : List (List Int), lstFrees (l.map eO) = true
  | [] => rfl
  | o :: l => by
    have := lstFrees_ints o
    simp only [List.map_cons, lstFrees, lstFree, eO, this, Bool.true_and]
    exact free_eO l
theorem own_t {n : Nat} {l : List Pr} (h : WebP n l) {o : List Int} (op : OrdP n o) : cmpT eqD (clF sortD (consA (compF true [3, 4] (seqI (unF (fldD 0 1) (varF 0))) (gtF (gconsF (gnF 3) (gconsF (gnF 4) gnilF))) yesT (tupF (consA (binF ixD (varF 2) (varF 3)) (consA (binF ixD (varF 2) (varF 4)) nilA)))) nilA)) (varF 1) [.sh (webD n l), .own (.lst ((srt l).map eA)), .sh (eO o), .no, .no] = some (.ok (okB l l o) [.sh (webD n l), .own (.lst ((srt l).map eA)), .sh (eO o), .no, .no]) := by
  have hl : l.length ≤ 1000000 := Nat.le_trans h.len (by decide)
  have hc := called_comp (env := [.sh (webD n l), .own (.lst ((srt l).map eA)), .sh (eO o), .no, .no]) (it := seqI (unF (fldD 0 1) (varF 0))) (ops := []) (o := o) (l := l) (v := 2) (j := 3) (k := 4) (by simp [seqI, unF, varF, peek, opsOf, fldD, eL]) rfl (.inl rfl) (.inl rfl) (by decide) (by decide) (by decide) hl (h.rng op)
  have hs := sort_lst (l := l.map (ap o)) (by simpa using hl)
  simp only [runF, ini, fin, retF, exprF, setF, nxF, seqF, ifS, bS_nx, bS_rt, bS, bES, bES_ok, andF, orF, unF, notF, negF, varF, shF, bE, bE_ok, bEt, bT, bA, bA_ok, peek, peeks, store, stores, put, free, Val.norm, truthD, consA, nilA, tupF_ap, lstF_ap, dispF, clF, caF, chF, chT, binF, cmpT, oBl, cm2, on1, truF, notT, andT, orT, ifF, lstFreeV, lstFree, lstFrees, List.map, List.append, List.replicate, List.length, List.getElem?_cons_zero, List.getElem?_cons_succ, List.cons_append, List.nil_append, List.set_cons_zero, List.set_cons_succ, Option.map, Option.bind, if_true, Nat.reduceAdd, Nat.reduceSub, Nat.zero_add, List.length_cons, List.length_nil, Bool.not_true, Bool.not_false, Bool.true_and, reduceIte, Bool.false_eq_true, if_false, Option.map_some, Option.bind_some, Nat.sub_self, List.replicate_zero, List.replicate_succ, Nat.succ_sub_succ_eq_sub, Nat.sub_zero, hc, hs, eq_lists, okB]
end K94
namespace K94
open PySem PySem.Spec L2 Ev Ma
theorem seq_call {F : Fn} {n : Int} {l : List Pr} {ds : List D} {es : List Ent} (ho : F [.int n] = some (.ok (.fr (.lst ds)))) (hf : lstFrees ds = true) : seqI (caF F (consA (unF (fldD 0 0) (varF 0)) nilA)) (.sh (webD n l) :: es) = some (.ok [] ds (.sh (webD n l) :: es)) := by
  simp only [runF, ini, fin, retF, exprF, setF, nxF, seqF, ifS, bS_nx, bS_rt, bS, bES, bES_ok, andF, orF, unF, notF, negF, varF, shF, bE, bE_ok, bEt, bT, bA, bA_ok, peek, peeks, store, stores, put, free, Val.norm, truthD, consA, nilA, tupF_ap, lstF_ap, dispF, clF, caF, chF, chT, binF, cmpT, oBl, cm2, on1, truF, notT, andT, orT, ifF, lstFreeV, lstFree, lstFrees, List.map, List.append, List.replicate, List.length, List.getElem?_cons_zero, List.getElem?_cons_succ, List.cons_append, List.nil_append, List.set_cons_zero, List.set_cons_succ, Option.map, Option.bind, if_true, Nat.reduceAdd, Nat.reduceSub, Nat.zero_add, List.length_cons, List.length_nil, Bool.not_true, Bool.not_false, Bool.true_and, reduceIte, Bool.false_eq_true, if_false, Option.map_some, Option.bind_some, Nat.sub_self, List.replicate_zero, List.replicate_succ, Nat.succ_sub_succ_eq_sub, Nat.sub_zero, seqI, fldD, ho, opsOf, hf]
theorem own_it {n : Nat} (hn : 1 ≤ n ∧ n ≤ 4) (l : List Pr) (es : List Ent) : seqI (caF f_orders_of (consA (unF (fldD 0 0) (varF 0)) nilA)) (.sh (webD n l) :: es) = some (.ok [] ((pm n).map eO) (.sh (webD n l) :: es)) :=
  seq_call (ok_orders_of hn) (free_eO (pm n))
end K94
namespace K94
open PySem PySem.Spec L2 Ev Ma
theorem own_gen {F : Fn} {n : Nat} {l : List Pr} {P : List (List Int)} (h : WebP n l) (ho : F [.int n] = some (.ok (.fr (.lst (P.map eO))))) (hp : P.length ≤ 1000000) (hP : ∀ o ∈ P, OrdP n o) :
    compF true [2] (seqI (caF F (consA (unF (fldD 0 0) (varF 0)) nilA))) (gnF 2) (cmpT eqD (clF sortD (consA (compF true [3, 4] (seqI (unF (fldD 0 1) (varF 0))) (gtF (gconsF (gnF 3) (gconsF (gnF 4) gnilF))) yesT (tupF (consA (binF ixD (varF 2) (varF 3)) (consA (binF ixD (varF 2) (varF 4)) nilA)))) nilA)) (varF 1)) (varF 2) [.sh (webD n l), .own (.lst ((srt l).map eA)), .no, .no, .no] =
      some (.ok (.fr (.lst ((P.filter (okB l l)).map eO))) [.sh (webD n l), .own (.lst ((srt l).map eA)), .no, .no, .no]) := by
  have hc := comp1 (i := 2) (env := [.sh (webD n l), .own (.lst ((srt l).map eA)), .no, .no, .no]) (it := seqI (caF F (consA (unF (fldD 0 0) (varF 0)) nilA))) (tt := cmpT eqD (clF sortD (consA (compF true [3, 4] (seqI (unF (fldD 0 1) (varF 0))) (gtF (gconsF (gnF 3) (gconsF (gnF 4) gnilF))) yesT (tupF (consA (binF ixD (varF 2) (varF 3)) (consA (binF ixD (varF 2) (varF 4)) nilA)))) nilA)) (varF 1)) (fe := varF 2) (ops := []) (ds := P.map eO) (t := fun d => okB l l (listI d)) (h := fun d => d)
    (seq_call ho (free_eO P)) (.inl rfl) (by rw [List.length_map]; exact hp) (fun d hd => ?_)
  · rw [hc, List.map_id', List.filter_map]
    have : ((fun d => okB l l (listI d)) ∘ eO) = okB l l := by funext o; simp [listI_eO]
    rw [this]
  · obtain ⟨o, hm, rfl⟩ := List.mem_map.mp hd
    refine ⟨?_, fun _ => ⟨.sh (eO o), rfl, .inl rfl⟩⟩
    rw [listI_eO]
    exact own_t h (hP o hm)
theorem own_run {F : Fn} {n : Nat} {l : List Pr} {P : List (List Int)} (h : WebP n l) (ho : F [.int n] = some (.ok (.fr (.lst (P.map eO))))) (hp : P.length ≤ 1000000) (hP : ∀ o ∈ P, OrdP n o) :
    runF 1 5 (seqF (setF 1 (clF sortD (consA (unF (fldD 0 1) (varF 0)) nilA))) (retF (compF true [2] (seqI (caF F (consA (unF (fldD 0 0) (varF 0)) nilA))) (gnF 2) (cmpT eqD (clF sortD (consA (compF true [3, 4] (seqI (unF (fldD 0 1) (varF 0))) (gtF (gconsF (gnF 3) (gconsF (gnF 4) gnilF))) yesT (tupF (consA (binF ixD (varF 2) (varF 3)) (consA (binF ixD (varF 2) (varF 4)) nilA)))) nilA)) (varF 1)) (varF 2)))) [webD n l] = some (.ok (.fr (.lst ((P.filter (okB l l)).map eO)))) := by
  have hc := own_gen h ho hp hP
  have hs := sort_tup (l := l) (Nat.le_trans h.len (by decide))
  simp only [runF, ini, fin, retF, exprF, setF, nxF, seqF, ifS, bS_nx, bS_rt, bS, bES, bES_ok, andF, orF, unF, notF, negF, varF, shF, bE, bE_ok, bEt, bT, bA, bA_ok, peek, peeks, store, stores, put, free, Val.norm, truthD, consA, nilA, tupF_ap, lstF_ap, dispF, clF, caF, chF, chT, binF, cmpT, oBl, cm2, on1, truF, notT, andT, orT, ifF, lstFreeV, lstFree, lstFrees, List.map, List.append, List.replicate, List.length, List.getElem?_cons_zero, List.getElem?_cons_succ, List.cons_append, List.nil_append, List.set_cons_zero, List.set_cons_succ, Option.map, Option.bind, if_true, Nat.reduceAdd, Nat.reduceSub, Nat.zero_add, List.length_cons, List.length_nil, Bool.not_true, Bool.not_false, Bool.true_and, reduceIte, Bool.false_eq_true, if_false, Option.map_some, Option.bind_some, Nat.sub_self, List.replicate_zero, List.replicate_succ, Nat.succ_sub_succ_eq_sub, Nat.sub_zero, fldD, hs, hc]
theorem ok_own_orders {n : Nat} (hn : 1 ≤ n ∧ n ≤ 4) {l : List Pr} (h : WebP n l) : f_own_orders [webD n l] = some (.ok (.fr (.lst (((pm n).filter (okB l l)).map eO)))) :=
  own_run h (ok_orders_of hn) (Nat.le_trans (len_pm n hn.2) (by decide)) fun o ho => pm_ord hn.2 ho
end K94
namespace K94
open PySem PySem.Spec L2 Ev Ma
theorem eq_eL (l m : List Pr) : eqD (eL l) (eL m) = some (decide (l = m)) := by
  obtain ⟨r, h1, h2⟩ := eqD_tree (tree_eL l) (tree_eL m) (by have := hi_eL l; omega) (by have := hi_eL m; omega)
  rw [h1]
  congr 1
  have : r = true ↔ l = m := h2.trans ⟨fun h => eL_inj h, fun h => by rw [h]⟩
  cases r with
  | true => exact (decide_eq_true (this.mp rfl)).symm
  | false => exact (decide_eq_false fun e => by have := this.mpr e; cases this).symm
theorem free_As : ∀ l : List Pr, lstFrees (l.map eA) = true
  | [] => rfl
  | q :: l => by
    simp only [List.map_cons, lstFrees, lstFree, eA, Bool.true_and, Bool.and_true]
    exact free_As l
theorem free_eL (l : List Pr) : lstFree (eL l) = true := by
  simp only [eL, lstFree]
  exact free_As l
theorem so_run {F C : Fn} {n : Nat} {l m : List Pr} {P : List (List Int)} (ho : F [.int n] = some (.ok (.fr (.lst (P.map eO))))) (hp : P.length ≤ 1000000) (hm : m.length ≤ 1000000) (hC : ∀ o ∈ P, C [eL l, eO o] = some (.ok (.sh (eL (srt (l.map (ap o))))))) :
    runF 3 4 (retF (compF true [3] (seqI (caF F (consA (varF 0) nilA))) (gnF 3) (cmpT eqD (caF C (consA (varF 1) (consA (varF 3) nilA))) (clF tupleD (consA (clF sortD (consA (varF 2) nilA)) nilA))) (varF 3))) [.int n, eL l, eL m] = some (.ok (.fr (.lst ((P.filter (okB l m)).map eO)))) := by
  have hf := free_eO P
  have hs := sort_tup (l := m) hm
  have ee : D.tup ((srt m).map eA) = eL (srt m) := rfl
  have hc := comp1 (i := 3) (env := [.sh (.int n), .sh (eL l), .sh (eL m), .no]) (it := seqI (caF F (consA (varF 0) nilA))) (tt := cmpT eqD (caF C (consA (varF 1) (consA (varF 3) nilA))) (clF tupleD (consA (clF sortD (consA (varF 2) nilA)) nilA))) (fe := varF 3) (ops := []) (ds := P.map eO) (t := fun d => okB l m (listI d)) (h := fun d => d)
    (by simp only [runF, ini, fin, retF, exprF, setF, nxF, seqF, ifS, bS_nx, bS_rt, bS, bES, bES_ok, andF, orF, unF, notF, negF, varF, shF, bE, bE_ok, bEt, bT, bA, bA_ok, peek, peeks, store, stores, put, free, Val.norm, truthD, consA, nilA, tupF_ap, lstF_ap, dispF, clF, caF, chF, chT, binF, cmpT, oBl, cm2, on1, truF, notT, andT, orT, ifF, lstFreeV, lstFree, lstFrees, List.map, List.append, List.replicate, List.length, List.getElem?_cons_zero, List.getElem?_cons_succ, List.cons_append, List.nil_append, List.set_cons_zero, List.set_cons_succ, Option.map, Option.bind, if_true, Nat.reduceAdd, Nat.reduceSub, Nat.zero_add, List.length_cons, List.length_nil, Bool.not_true, Bool.not_false, Bool.true_and, reduceIte, Bool.false_eq_true, if_false, Option.map_some, Option.bind_some, Nat.sub_self, List.replicate_zero, List.replicate_succ, Nat.succ_sub_succ_eq_sub, Nat.sub_zero, seqI, ho, opsOf, hf]) (.inl rfl) (by rw [List.length_map]; exact hp) (fun d hd => ?_)
  · simp only [runF, ini, fin, retF, exprF, setF, nxF, seqF, ifS, bS_nx, bS_rt, bS, bES, bES_ok, andF, orF, unF, notF, negF, varF, shF, bE, bE_ok, bEt, bT, bA, bA_ok, peek, peeks, store, stores, put, free, Val.norm, truthD, consA, nilA, tupF_ap, lstF_ap, dispF, clF, caF, chF, chT, binF, cmpT, oBl, cm2, on1, truF, notT, andT, orT, ifF, lstFreeV, lstFree, lstFrees, List.map, List.append, List.replicate, List.length, List.getElem?_cons_zero, List.getElem?_cons_succ, List.cons_append, List.nil_append, List.set_cons_zero, List.set_cons_succ, Option.map, Option.bind, if_true, Nat.reduceAdd, Nat.reduceSub, Nat.zero_add, List.length_cons, List.length_nil, Bool.not_true, Bool.not_false, Bool.true_and, reduceIte, Bool.false_eq_true, if_false, Option.map_some, Option.bind_some, Nat.sub_self, List.replicate_zero, List.replicate_succ, Nat.succ_sub_succ_eq_sub, Nat.sub_zero, hc]
    rw [List.map_id', List.filter_map]
    have : ((fun d => okB l m (listI d)) ∘ eO) = okB l m := by funext o; simp [listI_eO]
    rw [this]
  · obtain ⟨o, ho', rfl⟩ := List.mem_map.mp hd
    refine ⟨?_, fun _ => ⟨.sh (eO o), rfl, .inl rfl⟩⟩
    have hCo := hC o ho'
    rw [listI_eO]
    simp only [runF, ini, fin, retF, exprF, setF, nxF, seqF, ifS, bS_nx, bS_rt, bS, bES, bES_ok, andF, orF, unF, notF, negF, varF, shF, bE, bE_ok, bEt, bT, bA, bA_ok, peek, peeks, store, stores, put, free, Val.norm, truthD, consA, nilA, tupF_ap, lstF_ap, dispF, clF, caF, chF, chT, binF, cmpT, oBl, cm2, on1, truF, notT, andT, orT, ifF, lstFreeV, lstFree, lstFrees, List.map, List.append, List.replicate, List.length, List.getElem?_cons_zero, List.getElem?_cons_succ, List.cons_append, List.nil_append, List.set_cons_zero, List.set_cons_succ, Option.map, Option.bind, if_true, Nat.reduceAdd, Nat.reduceSub, Nat.zero_add, List.length_cons, List.length_nil, Bool.not_true, Bool.not_false, Bool.true_and, reduceIte, Bool.false_eq_true, if_false, Option.map_some, Option.bind_some, Nat.sub_self, List.replicate_zero, List.replicate_succ, Nat.succ_sub_succ_eq_sub, Nat.sub_zero, hCo, hs, tupleD, ee, eq_eL, okB, free_eL]
theorem ok_law_shape_orders {n : Nat} (hn : 1 ≤ n ∧ n ≤ 4) {l m : List Pr} (h : WebP n l) (hm : m.length ≤ 1000000) : f__law_shape_orders [.int n, eL l, eL m] = some (.ok (.fr (.lst (((pm n).filter (okB l m)).map eO)))) :=
  so_run (ok_law_orders hn) (Nat.le_trans (len_pm n hn.2) (by decide)) hm fun o ho => ok_called (Nat.le_trans h.len (by decide)) (h.rng (pm_ord hn.2 ho))
end K94
namespace K94
open PySem PySem.Spec L2 Ev Ma
theorem so_t {n : Int} {l m : List Pr} (h : WebP n l) {o : List Int} (op : OrdP n o) (w2 : D) : cmpT eqD (clF sortD (consA (compF true [4, 5] (seqI (unF (fldD 0 1) (varF 0))) (gtF (gconsF (gnF 4) (gconsF (gnF 5) gnilF))) yesT (tupF (consA (binF ixD (varF 3) (varF 4)) (consA (binF ixD (varF 3) (varF 5)) nilA)))) nilA)) (varF 2) [.sh (webD n l), .sh w2, .own (.lst ((srt m).map eA)), .sh (eO o), .no, .no] = some (.ok (okB l m o) [.sh (webD n l), .sh w2, .own (.lst ((srt m).map eA)), .sh (eO o), .no, .no]) := by
  have hl : l.length ≤ 1000000 := Nat.le_trans h.len (by decide)
  have hc := called_comp (env := [.sh (webD n l), .sh w2, .own (.lst ((srt m).map eA)), .sh (eO o), .no, .no]) (it := seqI (unF (fldD 0 1) (varF 0))) (ops := []) (o := o) (l := l) (v := 3) (j := 4) (k := 5) (by simp [seqI, unF, varF, peek, opsOf, fldD, eL]) rfl (.inl rfl) (.inl rfl) (by decide) (by decide) (by decide) hl (h.rng op)
  have hs := sort_lst (l := l.map (ap o)) (by simpa using hl)
  simp only [runF, ini, fin, retF, exprF, setF, nxF, seqF, ifS, bS_nx, bS_rt, bS, bES, bES_ok, andF, orF, unF, notF, negF, varF, shF, bE, bE_ok, bEt, bT, bA, bA_ok, peek, peeks, store, stores, put, free, Val.norm, truthD, consA, nilA, tupF_ap, lstF_ap, dispF, clF, caF, chF, chT, binF, cmpT, oBl, cm2, on1, truF, notT, andT, orT, ifF, lstFreeV, lstFree, lstFrees, List.map, List.append, List.replicate, List.length, List.getElem?_cons_zero, List.getElem?_cons_succ, List.cons_append, List.nil_append, List.set_cons_zero, List.set_cons_succ, Option.map, Option.bind, if_true, Nat.reduceAdd, Nat.reduceSub, Nat.zero_add, List.length_cons, List.length_nil, Bool.not_true, Bool.not_false, Bool.true_and, reduceIte, Bool.false_eq_true, if_false, Option.map_some, Option.bind_some, Nat.sub_self, List.replicate_zero, List.replicate_succ, Nat.succ_sub_succ_eq_sub, Nat.sub_zero, hc, hs, eq_lists, okB]
theorem so_loop {n : Int} {l m : List Pr} (h : WebP n l) (w2 : D) : ∀ (P : List (List Int)) (e3 : Ent), opn (some e3) → (∀ o ∈ P, OrdP n o) →
    ∃ e, forL (gnF 3) (ifS (cmpT eqD (clF sortD (consA (compF true [4, 5] (seqI (unF (fldD 0 1) (varF 0))) (gtF (gconsF (gnF 4) (gconsF (gnF 5) gnilF))) yesT (tupF (consA (binF ixD (varF 3) (varF 4)) (consA (binF ixD (varF 3) (varF 5)) nilA)))) nilA)) (varF 2)) (retF (varF 3)) nxF) (P.map eO) [.sh (webD n l), .sh w2, .own (.lst ((srt m).map eA)), e3, .no, .no] =
      match P.find? (okB l m) with
      | some o => some (.rt (.sh (eO o)) e)
      | none => some (.nx e)
  | [], e3, h3, _ => ⟨_, rfl⟩
  | o :: P, e3, h3, hP => by
    have ht := so_t (m := m) h (hP o List.mem_cons_self) w2
    have f3 : free [.sh (webD n l), .sh w2, .own (.lst ((srt m).map eA)), e3, .no, .no] 3 = true := opn_free (i := 3) h3
    have hg : gnF 3 (eO o) [.sh (webD n l), .sh w2, .own (.lst ((srt m).map eA)), e3, .no, .no] = some [.sh (webD n l), .sh w2, .own (.lst ((srt m).map eA)), .sh (eO o), .no, .no] := by
      unfold gnF put
      dsimp only
      rw [if_pos f3]
      rfl
    rw [List.map_cons, List.find?_cons]
    unfold forL
    rw [hg]
    dsimp only
    unfold ifS
    rw [ht]
    cases k : okB l m o with
    | true => exact ⟨_, rfl⟩
    | false => exact so_loop h w2 P (.sh (eO o)) (.inr ⟨_, rfl⟩) fun x hx => hP x (List.mem_cons_of_mem _ hx)
def orNon : Option (List Int) → D
  | some o => eO o
  | none => .non
theorem len_eL (l : List Pr) : lenD [eL l] = some (.sh (.int (l.length : Nat))) := by
  simp [lenD, on1, eL]
theorem ne_int (a b : Int) : neD (.int a) (.int b) = some (!decide (a = b)) := by
  have := eqD_int a b
  unfold neD
  simp only [this, Option.map_some]
theorem shape_run {F : Fn} {n k : Nat} {l m : List Pr} {P : List (List Int)} (h : WebP n l) (hm : m.length ≤ 1000000) (ho : F [.int n] = some (.ok (.fr (.lst (P.map eO))))) (hP : ∀ o ∈ P, OrdP n o) :
    runF 2 6 (seqF (ifS (orT (cmpT neD (unF (fldD 0 0) (varF 0)) (unF (fldD 0 0) (varF 1))) (cmpT neD (clF lenD (consA (unF (fldD 0 1) (varF 0)) nilA)) (clF lenD (consA (unF (fldD 0 1) (varF 1)) nilA)))) (retF (shF .non)) nxF)
    (seqF (setF 2 (clF sortD (consA (unF (fldD 0 1) (varF 1)) nilA)))
    (seqF (forF (seqI (caF F (consA (unF (fldD 0 0) (varF 0)) nilA))) (gnF 3) (ifS (cmpT eqD (clF sortD (consA (compF true [4, 5] (seqI (unF (fldD 0 1) (varF 0))) (gtF (gconsF (gnF 4) (gconsF (gnF 5) gnilF))) yesT (tupF (consA (binF ixD (varF 3) (varF 4)) (consA (binF ixD (varF 3) (varF 5)) nilA)))) nilA)) (varF 2)) (retF (varF 3)) nxF))
    (retF (shF .non))))) [webD n l, webD k m] = some (.ok (.sh (orNon (if n = k ∧ l.length = m.length then P.find? (okB l m) else none)))) := by
  have hs := sort_tup (l := m) hm
  by_cases h1 : n = k
  · subst h1
    by_cases h2 : l.length = m.length
    · obtain ⟨e, he⟩ := so_loop (m := m) h (webD n m) P .no (.inl rfl) hP
      have hl := len_eL l
      have hl2 := len_eL m
      have hi := seq_call (F := F) (n := n) (l := l) (es := [.sh (webD n m), .own (.lst ((srt m).map eA)), .no, .no, .no]) ho (free_eO P)
      simp only [runF, ini, fin, retF, exprF, setF, nxF, seqF, ifS, bS_nx, bS_rt, bS, bES, bES_ok, andF, orF, unF, notF, negF, varF, shF, bE, bE_ok, bEt, bT, bA, bA_ok, peek, peeks, store, stores, put, free, Val.norm, truthD, consA, nilA, tupF_ap, lstF_ap, dispF, clF, caF, chF, chT, binF, cmpT, oBl, cm2, on1, truF, notT, andT, orT, ifF, lstFreeV, lstFree, lstFrees, List.map, List.append, List.replicate, List.length, List.getElem?_cons_zero, List.getElem?_cons_succ, List.cons_append, List.nil_append, List.set_cons_zero, List.set_cons_succ, Option.map, Option.bind, if_true, Nat.reduceAdd, Nat.reduceSub, Nat.zero_add, List.length_cons, List.length_nil, Bool.not_true, Bool.not_false, Bool.true_and, reduceIte, Bool.false_eq_true, if_false, Option.map_some, Option.bind_some, Nat.sub_self, List.replicate_zero, List.replicate_succ, Nat.succ_sub_succ_eq_sub, Nat.sub_zero, fldD, hs, hl, hl2, ne_int, h2, decide_true, forF, hi, frz, he, and_self]
      cases P.find? (okB l m) <;> rfl
    · have d2 : decide (((l.length : Nat) : Int) = ((m.length : Nat) : Int)) = false := decide_eq_false (by omega)
      have d3 : ¬ ((n : Int) = n ∧ l.length = m.length) := fun e => h2 e.2
      have hl := len_eL l
      have hl2 := len_eL m
      simp only [runF, ini, fin, retF, exprF, setF, nxF, seqF, ifS, bS_nx, bS_rt, bS, bES, bES_ok, andF, orF, unF, notF, negF, varF, shF, bE, bE_ok, bEt, bT, bA, bA_ok, peek, peeks, store, stores, put, free, Val.norm, truthD, consA, nilA, tupF_ap, lstF_ap, dispF, clF, caF, chF, chT, binF, cmpT, oBl, cm2, on1, truF, notT, andT, orT, ifF, lstFreeV, lstFree, lstFrees, List.map, List.append, List.replicate, List.length, List.getElem?_cons_zero, List.getElem?_cons_succ, List.cons_append, List.nil_append, List.set_cons_zero, List.set_cons_succ, Option.map, Option.bind, if_true, Nat.reduceAdd, Nat.reduceSub, Nat.zero_add, List.length_cons, List.length_nil, Bool.not_true, Bool.not_false, Bool.true_and, reduceIte, Bool.false_eq_true, if_false, Option.map_some, Option.bind_some, Nat.sub_self, List.replicate_zero, List.replicate_succ, Nat.succ_sub_succ_eq_sub, Nat.sub_zero, fldD, hl, hl2, ne_int, d2, decide_true, h2, and_false, orNon]
  · have d1 : decide ((n : Int) = (k : Int)) = false := decide_eq_false (by omega)
    have d4 : ¬ (n = k ∧ l.length = m.length) := fun e => h1 e.1
    simp only [runF, ini, fin, retF, exprF, setF, nxF, seqF, ifS, bS_nx, bS_rt, bS, bES, bES_ok, andF, orF, unF, notF, negF, varF, shF, bE, bE_ok, bEt, bT, bA, bA_ok, peek, peeks, store, stores, put, free, Val.norm, truthD, consA, nilA, tupF_ap, lstF_ap, dispF, clF, caF, chF, chT, binF, cmpT, oBl, cm2, on1, truF, notT, andT, orT, ifF, lstFreeV, lstFree, lstFrees, List.map, List.append, List.replicate, List.length, List.getElem?_cons_zero, List.getElem?_cons_succ, List.cons_append, List.nil_append, List.set_cons_zero, List.set_cons_succ, Option.map, Option.bind, if_true, Nat.reduceAdd, Nat.reduceSub, Nat.zero_add, List.length_cons, List.length_nil, Bool.not_true, Bool.not_false, Bool.true_and, reduceIte, Bool.false_eq_true, if_false, Option.map_some, Option.bind_some, Nat.sub_self, List.replicate_zero, List.replicate_succ, Nat.succ_sub_succ_eq_sub, Nat.sub_zero, fldD, ne_int, d1, d4, orNon]
theorem ok_shape_order {n k : Nat} (hn : 1 ≤ n ∧ n ≤ 4) {l m : List Pr} (h : WebP n l) (hm : m.length ≤ 1000000) : f_shape_order [webD n l, webD k m] = some (.ok (.sh (orNon (if n = k ∧ l.length = m.length then (pm n).find? (okB l m) else none)))) :=
  shape_run h hm (ok_orders_of hn) fun o ho => pm_ord hn.2 ho
end K94
namespace K94
open PySem PySem.Spec L2 Ev Ma
open PySem.W (keyToks keyToksAll sort_maps)
theorem within_int {lo hi : Int} : ∀ {ds : List D}, (ds.all fun e => within e lo hi) = true → ∃ o : List Int, ds = o.map .int ∧ ∀ x ∈ o, lo ≤ x ∧ x ≤ hi
  | [], _ => ⟨[], rfl, by simp⟩
  | d :: ds, h => by
    rw [List.all_cons, Bool.and_eq_true] at h
    obtain ⟨o, rfl, h2⟩ := within_int h.2
    cases d with
    | int i =>
      refine ⟨i :: o, rfl, fun x hx => ?_⟩
      rcases List.mem_cons.mp hx with rfl | hx
      · simpa [within] using h.1
      · exact h2 x hx
    | _ => simp [within] at h
theorem row_eO {t : D} {n : Nat} (h : rowB t n 0 (n - 1) = true) : ∃ o : List Int, t = eO o ∧ o.length = n ∧ ∀ x ∈ o, 0 ≤ x ∧ x < n := by
  cases t with
  | tup ds =>
    simp only [rowB, isTup, Bool.and_eq_true] at h
    obtain ⟨o, rfl, h2⟩ := within_int h.2
    refine ⟨o, rfl, ?_, fun x hx => ?_⟩
    · have := of_decide_eq_true h.1
      simp at this
      omega
    · have := h2 x hx
      omega
  | _ => simp [rowB, isTup] at h
def srtI (o : List Int) : List Int := o.mergeSort fun a b => leD (.int a) (.int b)
theorem tok_int {a b : Int} (h : keyToks (pyOf (.int a)) = keyToks (pyOf (.int b))) : a = b := by
  have := @tok_ints [a] [b] (by simpa [keyToksAll, pyOf, toPy] using h)
  simpa using this
theorem srtI_map (l : List Int) : (l.map D.int).mergeSort leD = (srtI l).map D.int := by
  unfold srtI
  exact (sort_maps (r := fun a b => leD (.int a) (.int b)) (s := leD) D.int (l := l) fun a _ b _ => rfl).symm
theorem srtI_perm (l : List Int) : (srtI l).Perm l := List.mergeSort_perm _ _
theorem srtI_eq {l m : List Int} (p : l.Perm m) : srtI l = srtI m := by
  have := sort_perm (p.map D.int) fun a ha b hb h => by
    obtain ⟨x, _, rfl⟩ := List.mem_map.mp ha
    obtain ⟨y, _, rfl⟩ := List.mem_map.mp hb
    rw [tok_int h]
  rw [srtI_map, srtI_map] at this
  exact map_inj (fun _ _ e => D.int.inj e) this
def rngI (n : Nat) : List Int := (List.range n).map fun (i : Nat) => (i : Int)
theorem rng_srt : ∀ n : Nat, n ≤ 5 → (rngI n).Pairwise (fun a b => leD (.int a) (.int b) = true) := by decide +kernel
theorem srtI_rng {n : Nat} (h : n ≤ 5) : srtI (rngI n) = rngI n := List.mergeSort_of_pairwise (rng_srt n h)
theorem srtI_iff {n : Nat} (h : n ≤ 5) {o : List Int} : srtI o = rngI n ↔ o.Perm (rngI n) :=
  ⟨fun e => (srtI_perm o).symm.trans (e ▸ List.Perm.refl _), fun p => (srtI_eq p).trans (srtI_rng h)⟩
theorem rng_ord (n : Nat) {o : List Int} (p : o.Perm (rngI n)) : OrdP n o := by
  refine ⟨by rw [p.length_eq]; simp [rngI], p.nodup_iff.mpr ?_, fun x hx => ?_⟩
  · unfold rngI
    exact List.pairwise_map.mpr ((List.nodup_range (n := n)).imp fun h e => h (by omega))
  · have := p.mem_iff.mp hx
    unfold rngI at this
    obtain ⟨i, hi, rfl⟩ := List.mem_map.mp this
    have := List.mem_range.mp hi
    omega
end K94
namespace K94
open PySem PySem.Spec L2 Ev Ma
def words (n : Nat) : Nat → List (List Int)
  | 0 => [[]]
  | k + 1 => (words n k).flatMap fun w => (rngI n).map fun i => i :: w
theorem words_in {n : Nat} : ∀ (o : List Int), (∀ x ∈ o, 0 ≤ x ∧ x < n) → o ∈ words n o.length
  | [], _ => List.mem_singleton.mpr rfl
  | x :: o, h => by
    obtain ⟨h1, h2⟩ := h x List.mem_cons_self
    refine List.mem_flatMap.mpr ⟨o, words_in o fun y hy => h y (List.mem_cons_of_mem _ hy), List.mem_map.mpr ⟨x, ?_, rfl⟩⟩
    unfold rngI
    exact List.mem_map.mpr ⟨x.toNat, List.mem_range.mpr (by omega), by omega⟩
theorem words_pm : ∀ n : Nat, n ≤ 4 → 1 ≤ n → ((words n n).all fun o => !decide o.Nodup || decide (o ∈ pm n)) = true := by decide +kernel
theorem in_pm {n : Nat} (h : 1 ≤ n ∧ n ≤ 4) {o : List Int} (ho : OrdP n o) : o ∈ pm n := by
  have hl : o.length = n := by have := ho.1; omega
  have := words_in o ho.2.2
  rw [hl] at this
  have := List.all_eq_true.mp (words_pm n h.2 h.1) o this
  simpa [ho.2.1] using this
theorem pm_nodup : ∀ n : Nat, n ≤ 4 → (pm n).Nodup := by decide +kernel
theorem pm_perm : ∀ n : Nat, n ≤ 4 → ((pm n).all fun o => o.isPerm (rngI n)) = true := by decide +kernel
theorem ord_perm {n : Nat} (h : 1 ≤ n ∧ n ≤ 4) {o : List Int} (ho : OrdP n o) : o.Perm (rngI n) :=
  List.isPerm_iff.mp (List.all_eq_true.mp (pm_perm n h.2) o (in_pm h ho))
end K94
namespace K94
open PySem PySem.Spec L2 Ev Ma
theorem all_ints (o : List Int) : sortable (o.map D.int) = true := by
  unfold sortable
  rw [Bool.and_eq_true, Bool.and_eq_true]
  refine ⟨⟨?_, ?_⟩, ?_⟩
  · rw [List.all_map, List.all_eq_true]
    intro a _
    rw [Function.comp_apply, List.all_map, List.all_eq_true]
    intro b _
    rfl
  · rw [Bool.or_eq_true, Bool.or_eq_true]
    left
    right
    rw [List.all_map, List.all_eq_true]
    intro a _
    rfl
  · rw [List.all_map, List.all_eq_true]
    intro a _
    simp [pyOf, toPy, PyData.depth]
theorem sort_eO {o : List Int} (h : o.length ≤ 1000000) : sortD [eO o] = some (.fr (.lst ((srtI o).map D.int))) := by
  unfold sortD eO
  dsimp only
  rw [if_pos ⟨by rw [py_ints]; rfl, all_ints o, by simpa using h⟩, srtI_map]
theorem eq_ints (l m : List Int) : eqD (.lst (l.map D.int)) (.lst (m.map D.int)) = some (decide (l = m)) := by
  obtain ⟨r, h1, h2⟩ := eqD_tree (a := .lst (l.map D.int)) (b := .lst (m.map D.int)) (by simp only [tree]; exact trees_map (fun _ => rfl) l) (by simp only [tree]; exact trees_map (fun _ => rfl) m)
    (by simp only [hi]; have := his_map (f := D.int) (n := 0) (fun p => Nat.le_refl 0) l; omega) (by simp only [hi]; have := his_map (f := D.int) (n := 0) (fun p => Nat.le_refl 0) m; omega)
  rw [h1]
  congr 1
  have : r = true ↔ l = m := h2.trans ⟨fun h => map_inj (fun _ _ e => D.int.inj e) (D.lst.inj h), fun h => by rw [h]⟩
  cases r with
  | true => exact (decide_eq_true (this.mp rfl)).symm
  | false => exact (decide_eq_false fun e => by have := this.mpr e; cases this).symm
end K94
namespace K94
open PySem PySem.Spec L2 Ev Ma
/-- what is_shape_order says of a value -/
def isO (n : Nat) (l m : List Pr) (t : D) : Bool := rowB t n 0 (n - 1) && (decide (srtI (listI t) = rngI n) && okB l m (listI t))
theorem is_c {n : Int} {l : List Pr} (h : WebP n l) {o : List Int} (op : OrdP n o) (w2 : D) : compF true [3, 4] (seqI (unF (fldD 0 1) (varF 0))) (gtF (gconsF (gnF 3) (gconsF (gnF 4) gnilF))) yesT (tupF (consA (binF ixD (varF 2) (varF 3)) (consA (binF ixD (varF 2) (varF 4)) nilA))) [.sh (webD n l), .sh w2, .sh (eO o), .no, .no] = some (.ok (.fr (.lst ((l.map (ap o)).map eA))) [.sh (webD n l), .sh w2, .sh (eO o), .no, .no]) :=
  called_comp (env := [.sh (webD n l), .sh w2, .sh (eO o), .no, .no]) (it := seqI (unF (fldD 0 1) (varF 0))) (ops := []) (o := o) (l := l) (v := 2) (j := 3) (k := 4) (by simp [seqI, unF, varF, peek, opsOf, fldD, eL]) rfl (.inl rfl) (.inl rfl) (by decide) (by decide) (by decide) (Nat.le_trans h.len (by decide)) (h.rng op)
theorem ok_is_shape_order {n : Nat} (hn : 1 ≤ n ∧ n ≤ 4) {l m : List Pr} (h : WebP n l) (hm : m.length ≤ 1000000) {t : D} (ty : (tyD t).isSome = true) (tt : ∀ ds, isTup t = some ds → (∀ e ∈ ds, (tyD e).isSome = true) ∧ ds.length ≤ 1000000) :
    f_is_shape_order [webD n l, webD n m, t] = some (.ok (.sh (.bl (isO n l m t)))) := by
  have hr := ok_is_row (m := n) (lo := 0) (hi := (n : Int) - 1) ty tt
  have hs := sort_tup (l := m) hm
  cases k : rowB t n 0 (n - 1) with
  | false =>
    rw [k] at hr
    simp only [runF, ini, fin, retF, exprF, setF, nxF, seqF, ifS, bS_nx, bS_rt, bS, bES, bES_ok, andF, orF, unF, notF, negF, varF, shF, bE, bE_ok, bEt, bT, bA, bA_ok, peek, peeks, store, stores, put, free, Val.norm, truthD, consA, nilA, tupF_ap, lstF_ap, dispF, clF, caF, chF, chT, binF, cmpT, oBl, cm2, on1, truF, notT, andT, orT, ifF, lstFreeV, lstFree, lstFrees, List.map, List.append, List.replicate, List.length, List.getElem?_cons_zero, List.getElem?_cons_succ, List.cons_append, List.nil_append, List.set_cons_zero, List.set_cons_succ, Option.map, Option.bind, if_true, Nat.reduceAdd, Nat.reduceSub, Nat.zero_add, List.length_cons, List.length_nil, Bool.not_true, Bool.not_false, Bool.true_and, reduceIte, Bool.false_eq_true, if_false, Option.map_some, Option.bind_some, Nat.sub_self, List.replicate_zero, List.replicate_succ, Nat.succ_sub_succ_eq_sub, Nat.sub_zero, f_is_shape_order, g_is_shape_order, fldD, ne_int, decide_true, subD, int2, hr, isO, k, Bool.false_and]
  | true =>
    rw [k] at hr
    obtain ⟨o, rfl, h1, h2⟩ := row_eO k
    have hso := sort_eO (o := o) (by omega)
    have hrg := rangeD_map (n : Int)
    have hri : (n : Int) ≤ 1000000 ∧ -1000000 ≤ (n : Int) := by omega
    have e2 : ((List.range (n : Int).toNat).map fun (i : Nat) => (i : Int)) = rngI n := by simp [rngI]
    rw [e2] at hrg
    by_cases p : srtI o = rngI n
    · have op := rng_ord n ((srtI_iff (by omega)).mp p)
      have ht := is_c h op (webD n m)
      have hs2 := sort_lst (l := l.map (ap o)) (by rw [List.length_map]; exact Nat.le_trans h.len (by decide))
      simp only [runF, ini, fin, retF, exprF, setF, nxF, seqF, ifS, bS_nx, bS_rt, bS, bES, bES_ok, andF, orF, unF, notF, negF, varF, shF, bE, bE_ok, bEt, bT, bA, bA_ok, peek, peeks, store, stores, put, free, Val.norm, truthD, consA, nilA, tupF_ap, lstF_ap, dispF, clF, caF, chF, chT, binF, cmpT, oBl, cm2, on1, truF, notT, andT, orT, ifF, lstFreeV, lstFree, lstFrees, List.map, List.append, List.replicate, List.length, List.getElem?_cons_zero, List.getElem?_cons_succ, List.cons_append, List.nil_append, List.set_cons_zero, List.set_cons_succ, Option.map, Option.bind, if_true, Nat.reduceAdd, Nat.reduceSub, Nat.zero_add, List.length_cons, List.length_nil, Bool.not_true, Bool.not_false, Bool.true_and, reduceIte, Bool.false_eq_true, if_false, Option.map_some, Option.bind_some, Nat.sub_self, List.replicate_zero, List.replicate_succ, Nat.succ_sub_succ_eq_sub, Nat.sub_zero, f_is_shape_order, g_is_shape_order, fldD, subD, int2, hr, isO, k, hso, lrgD, hri, and_self, hrg, neD, eqD_int, decide_true, eq_ints, p, listI_eO, ht, hs2, hs, eq_lists, okB]
    · simp only [runF, ini, fin, retF, exprF, setF, nxF, seqF, ifS, bS_nx, bS_rt, bS, bES, bES_ok, andF, orF, unF, notF, negF, varF, shF, bE, bE_ok, bEt, bT, bA, bA_ok, peek, peeks, store, stores, put, free, Val.norm, truthD, consA, nilA, tupF_ap, lstF_ap, dispF, clF, caF, chF, chT, binF, cmpT, oBl, cm2, on1, truF, notT, andT, orT, ifF, lstFreeV, lstFree, lstFrees, List.map, List.append, List.replicate, List.length, List.getElem?_cons_zero, List.getElem?_cons_succ, List.cons_append, List.nil_append, List.set_cons_zero, List.set_cons_succ, Option.map, Option.bind, if_true, Nat.reduceAdd, Nat.reduceSub, Nat.zero_add, List.length_cons, List.length_nil, Bool.not_true, Bool.not_false, Bool.true_and, reduceIte, Bool.false_eq_true, if_false, Option.map_some, Option.bind_some, Nat.sub_self, List.replicate_zero, List.replicate_succ, Nat.succ_sub_succ_eq_sub, Nat.sub_zero, f_is_shape_order, g_is_shape_order, fldD, subD, int2, hr, isO, k, hso, lrgD, hri, and_self, hrg, neD, eqD_int, decide_true, eq_ints, p, listI_eO, decide_false, Bool.false_and, Bool.and_false]
end K94
namespace K94
open PySem PySem.Spec L2 Ev Ma
/-! ### the form -/
theorem zipDs_map : ∀ (xs ys : List Int), zipDs (xs.map D.int) (ys.map D.int) = (xs.zip ys).map eA := by
  intro xs ys
  unfold zipDs
  apply List.ext_getElem
  · simp
  · intro i h1 h2
    have hx : i < xs.length := by simp at h1; omega
    have hy : i < ys.length := by simp at h1; omega
    simp [hx, hy, eA]
def dot (xs ys : List Int) : Int := ((xs.zip ys).map fun p => p.1 * p.2).sum
def cut2 (l : List Pr) (xs ys : List Int) : Int := (l.map fun q => pl xs q.1 * pl ys q.2).sum
theorem sumD_map {α : Type} (f : α → Int) (l : List α) : sumD [.lst (l.map fun a => D.int (f a))] = some (.sh (.int (l.map f).sum)) := by
  have : (l.map fun a => D.int (f a)) = (l.map f).map D.int := by rw [List.map_map]; rfl
  rw [this]
  simp only [sumD, on1, intsOf_map, Option.map_some]
theorem pl_01 {xs : List Int} (hb : ∀ x ∈ xs, 0 ≤ x ∧ x ≤ 1) (i : Int) : 0 ≤ pl xs i ∧ pl xs i ≤ 1 := by
  unfold pl
  cases q : xs[i.toNat]? with
  | none => simp
  | some x => exact hb x (List.mem_of_getElem? q)
theorem mul_01 {a b : Int} (h : 0 ≤ a ∧ a ≤ 1) : mulD (.int a) (.int b) = some (.sh (.int (a * b))) := by
  simp only [mulD]
  rw [if_pos (by omega)]
theorem ok_form_by {n : Nat} {l : List Pr} (h : WebP n l) {xs ys : List Int} (hx : xs.length = n) (hy : ys.length = n) (hb : ∀ x ∈ xs, 0 ≤ x ∧ x ≤ 1) : f_form_by [webD n l, eO xs, eO ys] = some (.ok (.sh (.int (dot xs ys - cut2 l xs ys)))) := by
  have hn := h.n2
  have hl : l.length ≤ 1000000 := Nat.le_trans h.len (by decide)
  have hz := zipDs_map xs ys
  have c1 := comp2 (j := 4) (k := 5) (by decide) (env := [.sh (webD n l), .sh (eO xs), .sh (eO ys), .no, .no, .no]) (it := zipI (consA (varF 1) (consA (varF 2) nilA))) (tt := yesT) (fe := binF mulD (varF 4) (varF 5)) (ops := []) (ds := (xs.zip ys).map eA) (x := fun d => .int (fst2 d)) (y := fun d => .int (snd2 d)) (t := fun _ => true)
    (h := fun d => .int (fst2 d * snd2 d)) (by simp only [runF, ini, fin, retF, exprF, setF, nxF, seqF, ifS, bS_nx, bS_rt, bS, bES, bES_ok, andF, orF, unF, notF, negF, varF, shF, bE, bE_ok, bEt, bT, bA, bA_ok, peek, peeks, store, stores, put, free, Val.norm, truthD, consA, nilA, tupF_ap, lstF_ap, dispF, clF, caF, chF, chT, binF, cmpT, oBl, cm2, on1, truF, notT, andT, orT, ifF, lstFreeV, lstFree, lstFrees, List.map, List.append, List.replicate, List.length, List.getElem?_cons_zero, List.getElem?_cons_succ, List.cons_append, List.nil_append, List.set_cons_zero, List.set_cons_succ, Option.map, Option.bind, if_true, Nat.reduceAdd, Nat.reduceSub, Nat.zero_add, List.length_cons, List.length_nil, Bool.not_true, Bool.not_false, Bool.true_and, reduceIte, Bool.false_eq_true, if_false, Option.map_some, Option.bind_some, Nat.sub_self, List.replicate_zero, List.replicate_succ, Nat.succ_sub_succ_eq_sub, Nat.sub_zero, zipI, eO, hz]) (.inl rfl) (.inl rfl) (by simp; omega) (fun d hd => ?_)
  · have c2 := comp2 (j := 4) (k := 5) (by decide) (env := [.sh (webD n l), .sh (eO xs), .sh (eO ys), .sh (.int (dot xs ys)), .no, .no]) (it := seqI (unF (fldD 0 1) (varF 0))) (tt := yesT) (fe := binF mulD (binF ixD (varF 1) (varF 4)) (binF ixD (varF 2) (varF 5))) (ops := []) (ds := l.map eA) (x := fun d => .int (fst2 d)) (y := fun d => .int (snd2 d)) (t := fun _ => true)
      (h := fun d => .int (pl xs (fst2 d) * pl ys (snd2 d))) (by simp [seqI, unF, varF, peek, opsOf, fldD, eL]) (.inl rfl) (.inl rfl) (by simpa using hl) (fun d hd => ?_)
    · rw [filter_true, List.map_map] at c1 c2
      have s1 := sumD_map (fun p : Pr => p.1 * p.2) (xs.zip ys)
      have s2 := sumD_map (fun q : Pr => pl xs q.1 * pl ys q.2) l
      have g1 : ((fun d => D.int (fst2 d * snd2 d)) ∘ eA) = fun p : Pr => D.int (p.1 * p.2) := rfl
      have g2 : ((fun d => D.int (pl xs (fst2 d) * pl ys (snd2 d))) ∘ eA) = fun q : Pr => D.int (pl xs q.1 * pl ys q.2) := rfl
      rw [g1] at c1
      rw [g2] at c2
      simp only [runF, ini, fin, retF, exprF, setF, nxF, seqF, ifS, bS_nx, bS_rt, bS, bES, bES_ok, andF, orF, unF, notF, negF, varF, shF, bE, bE_ok, bEt, bT, bA, bA_ok, peek, peeks, store, stores, put, free, Val.norm, truthD, consA, nilA, tupF_ap, lstF_ap, dispF, clF, caF, chF, chT, binF, cmpT, oBl, cm2, on1, truF, notT, andT, orT, ifF, lstFreeV, lstFree, lstFrees, List.map, List.append, List.replicate, List.length, List.getElem?_cons_zero, List.getElem?_cons_succ, List.cons_append, List.nil_append, List.set_cons_zero, List.set_cons_succ, Option.map, Option.bind, if_true, Nat.reduceAdd, Nat.reduceSub, Nat.zero_add, List.length_cons, List.length_nil, Bool.not_true, Bool.not_false, Bool.true_and, reduceIte, Bool.false_eq_true, if_false, Option.map_some, Option.bind_some, Nat.sub_self, List.replicate_zero, List.replicate_succ, Nat.succ_sub_succ_eq_sub, Nat.sub_zero, f_form_by, g_form_by, c1, s1]
      have c2 := c2
      unfold dot at c2
      simp only [runF, ini, fin, retF, exprF, setF, nxF, seqF, ifS, bS_nx, bS_rt, bS, bES, bES_ok, andF, orF, unF, notF, negF, varF, shF, bE, bE_ok, bEt, bT, bA, bA_ok, peek, peeks, store, stores, put, free, Val.norm, truthD, consA, nilA, tupF_ap, lstF_ap, dispF, clF, caF, chF, chT, binF, cmpT, oBl, cm2, on1, truF, notT, andT, orT, ifF, lstFreeV, lstFree, lstFrees, List.map, List.append, List.replicate, List.length, List.getElem?_cons_zero, List.getElem?_cons_succ, List.cons_append, List.nil_append, List.set_cons_zero, List.set_cons_succ, Option.map, Option.bind, if_true, Nat.reduceAdd, Nat.reduceSub, Nat.zero_add, List.length_cons, List.length_nil, Bool.not_true, Bool.not_false, Bool.true_and, reduceIte, Bool.false_eq_true, if_false, Option.map_some, Option.bind_some, Nat.sub_self, List.replicate_zero, List.replicate_succ, Nat.succ_sub_succ_eq_sub, Nat.sub_zero, c2, s2, subD, int2, dot, cut2]
    · obtain ⟨q, hq, rfl⟩ := List.mem_map.mp hd
      obtain ⟨h1, h2, h3, h4, h5⟩ := h.inr q hq
      have i1 := ix_pl (o := xs) (i := q.1) ⟨h1, by omega⟩
      have i2 := ix_pl (o := ys) (i := q.2) ⟨h3, by omega⟩
      refine ⟨rfl, rfl, fun _ => ⟨.sh (.int (pl xs q.1 * pl ys q.2)), ?_, .inl rfl⟩⟩
      have mm := mul_01 (b := pl ys q.2) (pl_01 hb q.1)
      simp only [runF, ini, fin, retF, exprF, setF, nxF, seqF, ifS, bS_nx, bS_rt, bS, bES, bES_ok, andF, orF, unF, notF, negF, varF, shF, bE, bE_ok, bEt, bT, bA, bA_ok, peek, peeks, store, stores, put, free, Val.norm, truthD, consA, nilA, tupF_ap, lstF_ap, dispF, clF, caF, chF, chT, binF, cmpT, oBl, cm2, on1, truF, notT, andT, orT, ifF, lstFreeV, lstFree, lstFrees, List.map, List.append, List.replicate, List.length, List.getElem?_cons_zero, List.getElem?_cons_succ, List.cons_append, List.nil_append, List.set_cons_zero, List.set_cons_succ, Option.map, Option.bind, if_true, Nat.reduceAdd, Nat.reduceSub, Nat.zero_add, List.length_cons, List.length_nil, Bool.not_true, Bool.not_false, Bool.true_and, reduceIte, Bool.false_eq_true, if_false, Option.map_some, Option.bind_some, Nat.sub_self, List.replicate_zero, List.replicate_succ, Nat.succ_sub_succ_eq_sub, Nat.sub_zero, fst2_eA, snd2_eA, i1, i2, mm]
  · obtain ⟨q, hq, rfl⟩ := List.mem_map.mp hd
    refine ⟨rfl, rfl, fun _ => ⟨.sh (.int (q.1 * q.2)), ?_, .inl rfl⟩⟩
    have mm := mul_01 (b := q.2) (hb q.1 (List.of_mem_zip hq).1)
    simp only [runF, ini, fin, retF, exprF, setF, nxF, seqF, ifS, bS_nx, bS_rt, bS, bES, bES_ok, andF, orF, unF, notF, negF, varF, shF, bE, bE_ok, bEt, bT, bA, bA_ok, peek, peeks, store, stores, put, free, Val.norm, truthD, consA, nilA, tupF_ap, lstF_ap, dispF, clF, caF, chF, chT, binF, cmpT, oBl, cm2, on1, truF, notT, andT, orT, ifF, lstFreeV, lstFree, lstFrees, List.map, List.append, List.replicate, List.length, List.getElem?_cons_zero, List.getElem?_cons_succ, List.cons_append, List.nil_append, List.set_cons_zero, List.set_cons_succ, Option.map, Option.bind, if_true, Nat.reduceAdd, Nat.reduceSub, Nat.zero_add, List.length_cons, List.length_nil, Bool.not_true, Bool.not_false, Bool.true_and, reduceIte, Bool.false_eq_true, if_false, Option.map_some, Option.bind_some, Nat.sub_self, List.replicate_zero, List.replicate_succ, Nat.succ_sub_succ_eq_sub, Nat.sub_zero, fst2_eA, snd2_eA, mm]
end K94
namespace K94
open PySem PySem.Spec L2 Ev Ma
/-! ### the units -/
def un (n : Nat) (a : Int) : List Int := (rngI n).map fun i => if a = i then 1 else 0
theorem un_len (n : Nat) (a : Int) : (un n a).length = n := by simp [un, rngI]
theorem un_01 (n : Nat) (a : Int) : ∀ x ∈ un n a, 0 ≤ x ∧ x ≤ 1 := by
  intro x hx
  obtain ⟨i, _, rfl⟩ := List.mem_map.mp hx
  split <;> omega
theorem pl_un {n : Nat} {a i : Int} (hi : 0 ≤ i ∧ i < n) : pl (un n a) i = if a = i then 1 else 0 := by
  have hk : i.toNat < n := by omega
  have e : ((i.toNat : Nat) : Int) = i := by omega
  simp [pl, un, rngI, hk, e]
theorem dot_un' : ∀ n : Nat, n ≤ 4 → ((rngI n).all fun a => (rngI n).all fun b => dot (un n a) (un n b) == if a = b then 1 else 0) = true := by decide +kernel
theorem mem_rng {n : Nat} {i : Int} (h : 0 ≤ i ∧ i < n) : i ∈ rngI n := List.mem_map.mpr ⟨i.toNat, List.mem_range.mpr (by omega), by omega⟩
theorem dot_un {n : Nat} (hn : n ≤ 4) {a b : Int} (ha : 0 ≤ a ∧ a < n) (hb : 0 ≤ b ∧ b < n) : dot (un n a) (un n b) = if a = b then 1 else 0 :=
  eq_of_beq (List.all_eq_true.mp (List.all_eq_true.mp (dot_un' n hn) a (mem_rng ha)) b (mem_rng hb))
theorem sum_perm {α : Type} {f : α → Int} {l m : List α} (p : l.Perm m) : (l.map f).sum = (m.map f).sum := by
  induction p with
  | nil => rfl
  | cons x _ ih => simp [ih]
  | swap x y l => simp; omega
  | trans _ _ h1 h2 => rw [h1, h2]
theorem form_same {n : Nat} (hn : n ≤ 4) {l : List Pr} (hi : Inr n l) {o : List Int} (ho : OrdP n o) {a b : Int} (ha : 0 ≤ a ∧ a < n) (hb : 0 ≤ b ∧ b < n) :
    dot (un n a) (un n b) - cut2 l (un n a) (un n b) = dot (un n (pl o a)) (un n (pl o b)) - cut2 (srt (l.map (ap o))) (un n (pl o a)) (un n (pl o b)) := by
  have h1 := pl_in ho ha
  have h2 := pl_in ho hb
  have hab : (pl o a = pl o b) ↔ a = b := ⟨pl_inj ho ha hb, fun e => by rw [e]⟩
  rw [dot_un hn ha hb, dot_un hn h1 h2]
  congr 1
  · simp only [hab]
  · unfold cut2
    rw [sum_perm (srt_perm (l.map (ap o))), List.map_map]
    congr 1
    apply List.map_congr_left
    intro q hq
    obtain ⟨q1, q2, q3, q4, q5⟩ := hi q hq
    have e1 : (pl o a = pl o q.1) ↔ a = q.1 := ⟨pl_inj ho ha ⟨q1, q2⟩, fun e => by rw [e]⟩
    have e2 : (pl o b = pl o q.2) ↔ b = q.2 := ⟨pl_inj ho hb ⟨q3, q4⟩, fun e => by rw [e]⟩
    have i1 := pl_in ho (i := q.1) ⟨q1, q2⟩
    have i2 := pl_in ho (i := q.2) ⟨q3, q4⟩
    show _ = pl (un n (pl o a)) (pl o q.1) * pl (un n (pl o b)) (pl o q.2)
    rw [pl_un ⟨q1, q2⟩, pl_un ⟨q3, q4⟩, pl_un i1, pl_un i2]
    simp only [e1, e2]
/-! ### loops -/
theorem forL_keep {g : FG} {b : FS} (I : List Ent → Prop) : ∀ (ds : List D) (e : List Ent), (∀ d ∈ ds, ∀ e, I e → ∃ e1 e2, g d e = some e1 ∧ b e1 = some (.nx e2) ∧ I e2) → I e → ∃ e2, forL g b ds e = some (.nx e2) ∧ I e2
  | [], e, _, hi => ⟨e, rfl, hi⟩
  | d :: ds, e, h, hi => by
    obtain ⟨e1, e2, h1, h2, h3⟩ := h d List.mem_cons_self e hi
    obtain ⟨e3, h4, h5⟩ := forL_keep I ds e2 (fun x hx => h x (List.mem_cons_of_mem _ hx)) h3
    refine ⟨e3, ?_, h5⟩
    unfold forL
    rw [h1]
    dsimp only
    rw [h2]
    exact h4
theorem gt2 {j k : Nat} (n : j ≠ k) {env : List Ent} {x y : D} (hj : opn env[j]?) (hk : opn env[k]?) : gtF (gconsF (gnF j) (gconsF (gnF k) gnilF)) (.tup [x, y]) env = some ((env.set j (.sh x)).set k (.sh y)) := by
  have f1 := opn_free hj
  have f2 : free (env.set j (.sh x)) k = true := opn_free (by rw [List.getElem?_set_ne n]; exact hk)
  unfold gtF gconsF gnF put
  simp only [f1, if_true, Option.bind]
  simp only [f2, if_true, gnilF]
theorem ix_lst {α : Type} {f : α → D} {l : List α} {i : Int} (h : 0 ≤ i) {a : α} (ha : l[i.toNat]? = some a) : ixD (.lst (l.map f)) (.int i) = some (.sh (f a)) := by
  obtain ⟨k, rfl⟩ := Int.eq_ofNat_of_zero_le h
  have : L2.atI (l.map f) (k : Int) = some (f a) := atI_nat (j := k) (by
    have : l[k]? = some a := by simpa using ha
    rw [List.getElem?_map, this]; rfl)
  simp only [ixD, this, Option.map_some]
end K94
namespace K94
open PySem PySem.Spec L2 Ev Ma
theorem while_runN {t : FT} {b : FS} {S : List Ent → Prop} (R : Nat → List Ent → Prop) (h : ∀ n e, R n e → (∃ e', t e = some (.ok false e') ∧ S e') ∨ ∃ e1 e2 k, t e = some (.ok true e1) ∧ b e1 = some (.nx e2) ∧ k < n ∧ R k e2) : ∀ (m n : Nat) (e : List Ent), n < m → R n e → ∃ e', whileN t b (m + 1) e = some (.nx e') ∧ S e'
  | 0, n, e, hn, _ => by omega
  | m + 1, n, e, hn, hr => by
    rcases h n e hr with ⟨e', h1, h2⟩ | ⟨e1, e2, k, h1, h2, h3, h4⟩
    · refine ⟨e', ?_, h2⟩
      unfold whileN
      rw [h1]
    · obtain ⟨e', g1, g2⟩ : ∃ e', whileN t b (m + 1) e2 = some (.nx e') ∧ S e' := by
        by_cases hk : k < m
        · exact while_runN R h m k e2 hk h4
        · have : k = m ∧ m = 0 ∨ k < m ∨ m ≤ k := by omega
          exact absurd h3 (by omega)
      refine ⟨e', ?_, g2⟩
      unfold whileN
      rw [h1]
      dsimp only
      rw [h2]
      exact g1
/-- a while by what holds, with how many turns are left at most -/
theorem while_run {t : FT} {b : FS} {S : List Ent → Prop} (R : Nat → List Ent → Prop) (h : ∀ n e, R n e → (∃ e', t e = some (.ok false e') ∧ S e') ∨ ∃ e1 e2 k, t e = some (.ok true e1) ∧ b e1 = some (.nx e2) ∧ k < n ∧ R k e2) {n : Nat} {e : List Ent} (hr : R n e) : ∃ e', whileF t b e = some (.nx e') ∧ S e' := by
  obtain ⟨e', h1, h2⟩ := while_runN R h (n + 1) n e (by omega) hr
  exact ⟨e', whileF_of h1, h2⟩
/-- a for by what holds ahead of each turn -/
theorem for_run {g : FG} {b : FS} (R : Nat → List Ent → Prop) : ∀ (ds : List D) (i : Nat) (e : List Ent), (∀ (j : Nat) (d : D), ds[j]? = some d → ∀ e, R (i + j) e → ∃ e1 e2, g d e = some e1 ∧ b e1 = some (.nx e2) ∧ R (i + j + 1) e2) → R i e → ∃ e2, forL g b ds e = some (.nx e2) ∧ R (i + ds.length) e2
  | [], i, e, _, hi => ⟨e, rfl, hi⟩
  | d :: ds, i, e, h, hi => by
    obtain ⟨e1, e2, h1, h2, h3⟩ := h 0 d rfl e hi
    obtain ⟨e3, h4, h5⟩ := for_run R ds (i + 1) e2 (fun j x hx e he => by
      have := h (j + 1) x (by simpa using hx) e (by rw [show i + (j + 1) = i + 1 + j by omega]; exact he)
      rw [show i + (j + 1) = i + 1 + j by omega] at this
      exact this) h3
    refine ⟨e3, ?_, ?_⟩
    · unfold forL
      rw [h1]
      dsimp only
      rw [h2]
      exact h4
    · rw [List.length_cons, show i + (ds.length + 1) = i + 1 + ds.length by omega]
      exact h5
/-! ### rules: one a construct -/
theorem consA_ok {fa : F} {fs : FA} {env e1 e2 : List Ent} {r : Val} {rs : List Val} (h1 : fa env = some (.ok r e1)) (h2 : fs e1 = some (.ok rs e2)) : consA fa fs env = some (.ok (r.norm :: rs) e2) := by
  unfold consA
  rw [h1]
  dsimp only
  rw [h2]
theorem pk_nil {env : List Ent} : peeks env [] = some [] := rfl
theorem pk_cons {env : List Ent} {r : Val} {rs : List Val} {d : D} {ds : List D} (h1 : peek env r = some d) (h2 : peeks env rs = some ds) : peeks env (r :: rs) = some (d :: ds) := by
  unfold peeks
  rw [h1, h2]
theorem nilA_ok {env : List Ent} : nilA env = some (.ok [] env) := rfl
theorem cl_ok {f : List D → Option Val} {fs : FA} {env e1 : List Ent} {rs : List Val} {ds : List D} {r : Val} (h1 : fs env = some (.ok rs e1)) (h2 : peeks e1 rs = some ds) (h3 : f ds = some r) : clF f fs env = some (.ok r e1) := by
  unfold clF
  rw [h1]
  dsimp only [bA]
  rw [h2]
  dsimp only
  rw [h3]
  rfl
theorem ca_ok {f : Fn} {fs : FA} {env e1 : List Ent} {rs : List Val} {ds : List D} {r : Val} (h1 : fs env = some (.ok rs e1)) (h2 : peeks e1 rs = some ds) (h3 : f ds = some (.ok r)) (h4 : lstFreeV r = true) : caF f fs env = some (.ok r e1) := by
  unfold caF
  rw [h1]
  dsimp only [bA]
  rw [h2]
  dsimp only
  rw [h3]
  dsimp only
  rw [if_pos h4]
theorem ca_st {f : Fn} {fs : FA} {env e1 e2 : List Ent} {rs : List Val} {ds ds' : List D} {r : Val} (h1 : fs env = some (.ok rs e1)) (h2 : peeks e1 rs = some ds) (h3 : f ds = some (.ok r)) (h4 : lstFreeV r = false) (h5 : stores e1 rs = some (ds', e2)) : caF f fs env = some (.ok r e2) := by
  unfold caF
  rw [h1]
  dsimp only [bA]
  rw [h2]
  dsimp only
  rw [h3]
  dsimp only
  rw [if_neg (by rw [h4]; decide), h5]
theorem disp_ok {mk : List D → Val} {fs : FA} {env e1 e2 : List Ent} {rs : List Val} {ds : List D} (h1 : fs env = some (.ok rs e1)) (h2 : stores e1 rs = some (ds, e2)) : dispF mk fs env = some (.ok (mk ds) e2) := by
  unfold dispF
  rw [h1]
  dsimp only [bA]
  rw [h2]
theorem tup_ok {fs : FA} {env e1 e2 : List Ent} {rs : List Val} {ds : List D} (h1 : fs env = some (.ok rs e1)) (h2 : stores e1 rs = some (ds, e2)) : tupF fs env = some (.ok (.sh (.tup ds)) e2) := disp_ok h1 h2
theorem lst_ok {fs : FA} {env e1 e2 : List Ent} {rs : List Val} {ds : List D} (h1 : fs env = some (.ok rs e1)) (h2 : stores e1 rs = some (ds, e2)) : lstF fs env = some (.ok (.fr (.lst ds)) e2) := disp_ok h1 h2
theorem bin_ok {op : D → D → Option Val} {fa fb : F} {env e1 e2 : List Ent} {ra rb r : Val} {da db : D} (h1 : fa env = some (.ok ra e1)) (h2 : fb e1 = some (.ok rb e2)) (h3 : peek e2 ra = some da) (h4 : peek e2 rb = some db) (h5 : op da db = some r) : binF op fa fb env = some (.ok r e2) := by
  unfold binF
  rw [h1, bE_ok, h2, bE_ok]
  rw [h3, h4]
  dsimp only
  rw [h5]
  rfl
theorem bl_ok {op : D → D → Option Bool} {fa fb : F} {env e1 e2 : List Ent} {ra rb : Val} {da db : D} {b : Bool} (h1 : fa env = some (.ok ra e1)) (h2 : fb e1 = some (.ok rb e2)) (h3 : peek e2 ra = some da) (h4 : peek e2 rb = some db) (h5 : op da db = some b) : binF (oBl op) fa fb env = some (.ok (.sh (.bl b)) e2) :=
  bin_ok h1 h2 h3 h4 (by unfold oBl; rw [h5]; rfl)
theorem un_ok {op : D → Option Val} {fa : F} {env e1 : List Ent} {ra r : Val} {da : D} (h1 : fa env = some (.ok ra e1)) (h3 : peek e1 ra = some da) (h5 : op da = some r) : unF op fa env = some (.ok r e1) := by
  unfold unF
  rw [h1, bE_ok]
  rw [h3]
  dsimp only
  rw [h5]
  rfl
theorem cmp_ok {op : D → D → Option Bool} {fa fb : F} {env e1 e2 : List Ent} {ra rb : Val} {da db : D} {b : Bool} (h1 : fa env = some (.ok ra e1)) (h2 : fb e1 = some (.ok rb e2)) (h3 : peek e2 ra = some da) (h4 : peek e2 rb = some db) (h5 : op da db = some b) : cmpT op fa fb env = some (.ok b e2) := by
  unfold cmpT
  rw [h1, bEt_ok, h2, bEt_ok]
  rw [h3, h4]
  dsimp only
  rw [h5]
  rfl
theorem tru_ok {f : F} {env e1 : List Ent} {r : Val} {d : D} {b : Bool} (h1 : f env = some (.ok r e1)) (h2 : peek e1 r = some d) (h3 : truthD d = some b) : truF f env = some (.ok b e1) := by
  unfold truF
  rw [h1]
  dsimp only
  rw [h2]
  show (truthD d).map _ = _
  rw [h3]
  rfl
theorem not_ok {f : FT} {env e1 : List Ent} {b : Bool} (h1 : f env = some (.ok b e1)) : notT f env = some (.ok (!b) e1) := by
  unfold notT
  rw [h1, bT_ok]
theorem and_t {f g : FT} {env e1 : List Ent} {o : Option OuT} (h1 : f env = some (.ok true e1)) (h2 : g e1 = o) : andT f g env = o := by
  unfold andT
  rw [h1, bT_ok]
  exact h2
theorem and_f {f g : FT} {env e1 : List Ent} (h1 : f env = some (.ok false e1)) : andT f g env = some (.ok false e1) := by
  unfold andT
  rw [h1, bT_ok]
  rfl
theorem or_t {f g : FT} {env e1 : List Ent} (h1 : f env = some (.ok true e1)) : orT f g env = some (.ok true e1) := by
  unfold orT
  rw [h1, bT_ok]
  rfl
theorem or_f {f g : FT} {env e1 : List Ent} {o : Option OuT} (h1 : f env = some (.ok false e1)) (h2 : g e1 = o) : orT f g env = o := by
  unfold orT
  rw [h1, bT_ok]
  exact h2
theorem ife_t {t : FT} {f g : F} {env e1 : List Ent} {o : Option Ou} (h1 : t env = some (.ok true e1)) (h2 : f e1 = o) : ifF t f g env = o := by
  unfold ifF
  rw [h1, bT_ok]
  exact h2
theorem ife_f {t : FT} {f g : F} {env e1 : List Ent} {o : Option Ou} (h1 : t env = some (.ok false e1)) (h2 : g e1 = o) : ifF t f g env = o := by
  unfold ifF
  rw [h1, bT_ok]
  exact h2
theorem mk_ok {cl : Nat} {f : Fm} {fs : FA} {env e1 e2 : List Ent} {rs : List Val} {ds fl : List D} (h1 : fs env = some (.ok rs e1)) (h2 : stores e1 rs = some (ds, e2)) (h3 : f ds = some fl) : mkF cl f fs env = some (.ok (.sh (.ins cl fl)) e2) := by
  unfold mkF
  rw [h1]
  dsimp only [bA]
  rw [h2]
  dsimp only
  rw [h3]
  rfl
theorem io_ok {i : Nat} {f : Fi} {fs : FA} {env e1 e2 : List Ent} {rs : List Val} {ds hs hs' : List D} {r : Val} (h0 : isLst env i = true) (h1 : fs env = some (.ok rs e1)) (h2 : stores e1 rs = some (ds, e2)) (h3 : lstAt e2 i = some hs) (h4 : f hs ds = some (hs', r)) : ioF i f fs env = some (.ok r (lstSet e2 i hs')) := by
  unfold ioF
  rw [if_pos h0, h1]
  dsimp only [bA]
  rw [h2]
  dsimp only
  rw [h3]
  dsimp only
  rw [h4]
  rfl
theorem expr_ok {f : F} {e e1 : List Ent} {r : Val} (h : f e = some (.ok r e1)) : exprF f e = some (.nx e1) := by
  unfold exprF
  rw [h]
  rfl
theorem par_ok {i j : Nat} {fa fb : F} {e e1 e2 : List Ent} {ra rb : Val} {o : Option So} (h1 : fa e = some (.ok ra e1)) (h2 : fb e1 = some (.ok rb e2)) (h3 : par2 i j e2 ra rb = o) : parF i j fa fb e = o := by
  unfold parF
  rw [h1, bES_ok, h2, bES_ok]
  exact h3
theorem seqI_ok {f : F} {env e : List Ent} {r : Val} {ds : List D} (h1 : f env = some (.ok r e)) (h2 : peek e r = some (.lst ds) ∨ peek e r = some (.tup ds)) : seqI f env = some (.ok (opsOf r) ds e) := by
  unfold seqI
  rw [h1]
  dsimp only
  rcases h2 with h | h <;> rw [h]
theorem seq_ok {g h : FS} {e e1 : List Ent} {o : Option So} (h1 : g e = some (.nx e1)) (h2 : h e1 = o) : seqF g h e = o := by
  unfold seqF
  rw [h1]
  exact h2
theorem seq_rt {g h : FS} {e e1 : List Ent} {r : Val} (h1 : g e = some (.rt r e1)) : seqF g h e = some (.rt r e1) := by
  unfold seqF
  rw [h1]
  rfl
theorem if_t {t : FT} {g h : FS} {e e1 : List Ent} {o : Option So} (h1 : t e = some (.ok true e1)) (h2 : g e1 = o) : ifS t g h e = o := by
  unfold ifS
  rw [h1]
  exact h2
theorem if_f {t : FT} {g h : FS} {e e1 : List Ent} {o : Option So} (h1 : t e = some (.ok false e1)) (h2 : h e1 = o) : ifS t g h e = o := by
  unfold ifS
  rw [h1]
  exact h2
theorem for_ok {it : FI} {g : FG} {b : FS} {e e1 e2 : List Ent} {ops : List Nat} {ds : List D} {o : Option So} (h1 : it e = some (.ok ops ds e1)) (h2 : frz e1 ops = some e2) (h3 : forL g b ds e2 = o) : forF it g b e = o := by
  unfold forF
  rw [h1]
  dsimp only
  rw [h2]
  exact h3
theorem ret_ok {f : F} {e e1 : List Ent} {r : Val} (h : f e = some (.ok r e1)) : retF f e = some (.rt r e1) := by
  unfold retF
  rw [h]
  rfl
theorem set_ok {i : Nat} {f : F} {e e1 e2 : List Ent} {r : Val} (h : f e = some (.ok r e1)) (hp : put e1 i r = some e2) : setF i f e = some (.nx e2) := by
  unfold setF
  rw [h]
  show (put e1 i r).map So.nx = _
  rw [hp]
  rfl
theorem runF_rt {np n : Nat} {g : FS} {ds : List D} {r r' : Val} {e : List Ent} (hl : ds.length = np) (h : g (ini n ds) = some (.rt r e)) (hf : fin e r = some r') : runF np n g ds = some (.ok r') := by
  unfold runF
  rw [if_pos hl, h]
  show (fin e r).map Fo.ok = _
  rw [hf]
  rfl
theorem runI_rt {np n : Nat} {g : FS} {hs hs' ds : List D} {r r' : Val} {e : List Ent} (hl : ds.length + 1 = np) (h : g (iniI n hs ds) = some (.rt r (.io (.lst hs') :: e))) (hf : fin (.io (.lst hs') :: e) r = some r') : runI np n g hs ds = some (hs', r') := by
  unfold runI
  rw [if_pos hl, h]
  show (fin (.io (.lst hs') :: e) r).map (fun r => (hs', r)) = _
  rw [hf]
  rfl
theorem rngd_ok (n : Nat) (h : n ≤ 1000) : lrgD (.int n) = some (.fr (.lst ((List.range n).map fun (i : Nat) => D.int i))) := by
  unfold lrgD
  dsimp only
  rw [if_pos (by omega)]
  simp [rangeD]
theorem rg1_ok {f : F} {e e1 : List Ent} {n : Nat} (hn : n ≤ 1000) (h : f e = some (.ok (.sh (.int n)) e1)) : rg1I (consA f nilA) e = some (.ok [] ((List.range n).map fun (i : Nat) => D.int i) e1) := by
  have c : -4611686018427387904 ≤ (n : Int) ∧ (n : Int) < 4611686018427387904 := by omega
  have a : consA f nilA e = some (.ok [.sh (.int n)] e1) := by
    unfold consA
    rw [h]
    rfl
  unfold rg1I
  rw [a]
  show (if -4611686018427387904 ≤ (n : Int) ∧ (n : Int) < 4611686018427387904 then some (OuI.ok [] (rangeD 0 n) e1) else none) = _
  rw [if_pos c]
  simp [rangeD]
end K94
namespace K94
open Ma
/-! ### turns at ends: the plain walk -/
def tn (p : Int) (q : Pr) : Pr := if q.2 = p then (q.2, q.1) else q
def snk (p : Int) (l : List Pr) : Bool := !(l.any fun q => decide (q.1 = p))
noncomputable def trn (p : Int) (l : List Pr) : List Pr := srt (l.map (tn p))
theorem snk_iff {p : Int} {l : List Pr} : snk p l = true ↔ ∀ q ∈ l, q.1 ≠ p := by
  unfold snk
  rw [Bool.not_eq_true', List.any_eq_false]
  exact ⟨fun h q hq e => h q hq (by simpa using e), fun h q hq e => h q hq (by simpa using e)⟩
theorem snk_perm {p : Int} {l m : List Pr} (h : l.Perm m) : snk p l = snk p m := by
  rw [Bool.eq_iff_iff, snk_iff, snk_iff]
  exact ⟨fun a q hq => a q (h.mem_iff.mpr hq), fun a q hq => a q (h.mem_iff.mp hq)⟩
theorem srt_eq' {l m : List Pr} (h : l.Perm m) : srt l = srt m := srt_iff.mpr h
theorem srt_srt (l : List Pr) : srt (srt l) = srt l := srt_eq' (srt_perm l)
theorem trn_perm {p : Int} {l m : List Pr} (h : l.Perm m) : trn p l = trn p m := srt_eq' (h.map _)
/-- all webs with some arrows turned -/
def flips : List Pr → List (List Pr)
  | [] => [[]]
  | q :: l => (flips l).map (q :: ·) ++ (flips l).map ((q.2, q.1) :: ·)
theorem flips_len : ∀ l : List Pr, (flips l).length = 2 ^ l.length
  | [] => rfl
  | q :: l => by simp only [flips, List.length_append, List.length_map, flips_len l, List.length_cons]; omega
theorem flips_self : ∀ l : List Pr, l ∈ flips l
  | [] => List.mem_singleton.mpr rfl
  | q :: l => List.mem_append_left _ (List.mem_map.mpr ⟨l, flips_self l, rfl⟩)
theorem flips_tn (p : Int) : ∀ {l m : List Pr}, m ∈ flips l → m.map (tn p) ∈ flips l
  | [], m, h => by rw [List.mem_singleton.mp h]; exact List.mem_singleton.mpr rfl
  | q :: l, m, h => by
    have key : ∀ x : List Pr, x ∈ flips l → ∀ z : Pr, (z = q ∨ z = (q.2, q.1)) → z :: x ∈ flips (q :: l) := fun x hx z hz => by
      rcases hz with rfl | rfl
      · exact List.mem_append_left _ (List.mem_map.mpr ⟨x, hx, rfl⟩)
      · exact List.mem_append_right _ (List.mem_map.mpr ⟨x, hx, rfl⟩)
    have tt : ∀ z : Pr, (z = q ∨ z = (q.2, q.1)) → tn p z = q ∨ tn p z = (q.2, q.1) := fun z hz => by
      unfold tn
      rcases hz with rfl | rfl <;> split <;> simp
    rcases List.mem_append.mp h with h | h
    · obtain ⟨x, hx, rfl⟩ := List.mem_map.mp h
      exact key _ (flips_tn p hx) _ (tt _ (.inl rfl))
    · obtain ⟨x, hx, rfl⟩ := List.mem_map.mp h
      exact key _ (flips_tn p hx) _ (tt _ (.inr rfl))
theorem tn_web {n : Int} {l : List Pr} (h : WebP n l) {p : Int} (hs : snk p l = true) : WebP n (l.map (tn p)) := by
  have hs := snk_iff.mp hs
  refine ⟨h.n1, h.n2, by rw [List.length_map]; exact h.len, fun q hq => ?_, ?_⟩
  · obtain ⟨x, hx, rfl⟩ := List.mem_map.mp hq
    obtain ⟨h1, h2, h3, h4, h5⟩ := h.inr x hx
    unfold tn
    split
    · exact ⟨h3, h4, h1, h2, Ne.symm h5⟩
    · exact ⟨h1, h2, h3, h4, h5⟩
  · obtain ⟨r, hr⟩ := h.acy
    have low : ∀ m : List Pr, ∃ b : Int, ∀ q ∈ m, b < r q.1 ∧ b < r q.2 := fun m => by
      induction m with
      | nil => exact ⟨0, by simp⟩
      | cons x m ih =>
        obtain ⟨b, hb⟩ := ih
        refine ⟨min b (min (r x.1) (r x.2)) - 1, fun q hq => ?_⟩
        rcases List.mem_cons.mp hq with rfl | hq
        · omega
        · have := hb q hq; omega
    obtain ⟨b, hb⟩ := low l
    refine ⟨fun i => if i = p then b else r i, fun q hq => ?_⟩
    obtain ⟨x, hx, rfl⟩ := List.mem_map.mp hq
    have h1 := hs x hx
    have h2 := hb x hx
    have h3 := hr x hx
    unfold tn
    split
    · rename_i e
      simp only [e, h1, if_true, if_false]
      exact h2.1
    · rename_i e
      simp only [e, h1, if_false]
      exact h3
theorem trn_web {n : Int} {l : List Pr} (h : WebP n l) {p : Int} (hs : snk p l = true) : WebP n (trn p l) := (tn_web h hs).srt
/-- what comes by turns -/
inductive Rch (n : Nat) : List Pr → List Pr → Prop
  | refl (a) : Rch n a a
  | step {a b : List Pr} {p : Int} (h : Rch n a b) (hp : p ∈ rngI n) (hs : snk p b = true) : Rch n a (trn p b)
theorem Rch.trans {n : Nat} {a b c : List Pr} (h : Rch n a b) (k : Rch n b c) : Rch n a c := by
  induction k with
  | refl => exact h
  | step _ hp hs ih => exact ih.step hp hs
theorem Rch.web {n : Nat} {a b : List Pr} (h : Rch n a b) (w : WebP n a) : WebP n b := by
  induction h with
  | refl => exact w
  | step _ _ hs ih => exact trn_web ih hs
theorem Rch.sorted {n : Nat} {a b : List Pr} (h : Rch n a b) (w : srt a = a) : srt b = b := by
  cases h with
  | refl => exact w
  | step _ _ _ => exact srt_srt _
/-! back again -/
def fl (S : List Int) (q : Pr) : Pr := if (decide (q.1 ∈ S)) = (decide (q.2 ∈ S)) then q else (q.2, q.1)
theorem exists_max (r : Int → Int) : ∀ {l : List Int}, l ≠ [] → ∃ p ∈ l, ∀ q ∈ l, r q ≤ r p
  | [], h => absurd rfl h
  | [x], _ => ⟨x, by simp, fun q hq => by simp at hq; rw [hq]; exact Int.le_refl _⟩
  | x :: y :: l, _ => by
    obtain ⟨p, h1, h2⟩ := exists_max r (l := y :: l) (by simp)
    by_cases h : r p ≤ r x
    · exact ⟨x, List.mem_cons_self, fun q hq => by
        rcases List.mem_cons.mp hq with e | hq
        · rw [e]; exact Int.le_refl _
        · exact Int.le_trans (h2 q hq) h⟩
    · exact ⟨p, List.mem_cons_of_mem _ h1, fun q hq => by
        rcases List.mem_cons.mp hq with e | hq
        · rw [e]; omega
        · exact h2 q hq⟩
theorem back_all {n : Nat} {l : List Pr} {r : Int → Int} (hr : ∀ q ∈ l, r q.1 < r q.2) : ∀ (k : Nat) (S : List Int), S.length = k → S.Nodup → (∀ p ∈ S, p ∈ rngI n) → (∀ q ∈ l, q.1 ∉ S → q.2 ∉ S) → Rch n (srt (l.map (fl S))) (srt l)
  | 0, S, h0, _, _, _ => by
    have : S = [] := List.length_eq_zero_iff.mp h0
    subst this
    have : l.map (fl []) = l := by
      rw [List.map_congr_left (g := id) (fun q _ => by simp [fl])]
      simp
    rw [this]
    exact .refl _
  | k + 1, S, hk, hn, hS, hu => by
    obtain ⟨p, hp, hm⟩ := exists_max r (l := S) (by intro e; rw [e] at hk; simp at hk)
    have memE : ∀ x, x ∈ S.erase p ↔ x ≠ p ∧ x ∈ S := fun x => hn.mem_erase_iff
    have ih := back_all hr k (S.erase p) (by rw [List.length_erase_of_mem hp, hk]; rfl) (hn.erase p) (fun x hx => hS x ((memE x).mp hx).2) (fun q hq h1 h2 => by
      have h2 := (memE _).mp h2
      by_cases e : q.1 = p
      · have a := hr q hq
        have b := hm q.2 h2.2
        rw [e] at a
        omega
      · exact hu q hq (fun z => h1 ((memE _).mpr ⟨e, z⟩)) h2.2)
    have hs : snk p (l.map (fl S)) = true := snk_iff.mpr fun z hz e => by
      obtain ⟨q, hq, rfl⟩ := List.mem_map.mp hz
      have a := hr q hq
      have u := hu q hq
      unfold fl at e
      by_cases m1 : q.1 ∈ S <;> by_cases m2 : q.2 ∈ S
      · rw [if_pos (by simp [m1, m2])] at e
        have b := hm q.2 m2
        rw [e] at a
        omega
      · rw [if_neg (by simp [m1, m2])] at e
        have e : q.2 = p := e
        exact m2 (e ▸ hp)
      · exact u m1 m2
      · rw [if_pos (by simp [m1, m2])] at e
        exact m1 (e ▸ hp)
    have ht : (l.map (fl S)).map (tn p) = l.map (fl (S.erase p)) := by
      rw [List.map_map]
      apply List.map_congr_left
      intro q hq
      have a := hr q hq
      have u := hu q hq
      have ne : q.1 ≠ q.2 := fun e => by rw [e] at a; omega
      have pn : ¬ p ∈ S.erase p := fun z => ((memE _).mp z).1 rfl
      show tn p (fl S q) = fl (S.erase p) q
      unfold fl tn
      by_cases e1 : q.1 = p
      · have e2 : q.2 ≠ p := fun e => ne (e1.trans e.symm)
        have m1 : q.1 ∈ S := e1 ▸ hp
        have m1' : ¬ q.1 ∈ S.erase p := fun z => ((memE _).mp z).1 e1
        by_cases m2 : q.2 ∈ S
        · have b := hm q.2 m2
          rw [e1] at a
          omega
        · have m2' : ¬ q.2 ∈ S.erase p := fun z => m2 ((memE _).mp z).2
          have q1 : q = (p, q.2) := Prod.ext e1 rfl
          simp [m1, m1', m2, m2', e1, hp, pn]
          try exact q1.symm
      · by_cases e2 : q.2 = p
        · have m2 : q.2 ∈ S := e2 ▸ hp
          have m2' : ¬ q.2 ∈ S.erase p := fun z => ((memE _).mp z).1 e2
          by_cases m1 : q.1 ∈ S
          · have m1' : q.1 ∈ S.erase p := (memE _).mpr ⟨e1, m1⟩
            simp [m1, m1', m2, m2', e2, hp, pn]
          · exact absurd m2 (u m1)
        · have i1 : q.1 ∈ S.erase p ↔ q.1 ∈ S := ⟨fun z => ((memE _).mp z).2, fun z => (memE _).mpr ⟨e1, z⟩⟩
          have i2 : q.2 ∈ S.erase p ↔ q.2 ∈ S := ⟨fun z => ((memE _).mp z).2, fun z => (memE _).mpr ⟨e2, z⟩⟩
          simp only [i1, i2]
          by_cases m1 : q.1 ∈ S <;> by_cases m2 : q.2 ∈ S <;> simp [m1, m2, e1, e2]
    have s1 : Rch n (srt (l.map (fl S))) (trn p (srt (l.map (fl S)))) := (Rch.refl _).step (hS p hp) (by rw [snk_perm (srt_perm _)]; exact hs)
    rw [trn_perm (srt_perm _)] at s1
    unfold trn at s1
    rw [ht] at s1
    exact s1.trans ih
theorem rng_nodup (n : Nat) : (rngI n).Nodup := by
  unfold rngI
  exact List.pairwise_map.mpr ((List.nodup_range (n := n)).imp fun h e => h (by omega))
theorem back_one {n : Nat} {l : List Pr} (w : WebP n l) (hl : srt l = l) {p : Int} (hp : p ∈ rngI n) (hs : snk p l = true) : Rch n (trn p l) l := by
  obtain ⟨r, hr⟩ := w.acy
  have hs := snk_iff.mp hs
  have memE : ∀ x, x ∈ (rngI n).erase p ↔ x ≠ p ∧ x ∈ rngI n := fun x => (rng_nodup n).mem_erase_iff
  have h := back_all (n := n) hr _ ((rngI n).erase p) rfl ((rng_nodup n).erase p) (fun x hx => ((memE x).mp hx).2) (fun q hq h1 => by
    obtain ⟨i1, i2, i3, i4, i5⟩ := w.inr q hq
    exact absurd ((memE _).mpr ⟨hs q hq, mem_rng ⟨i1, i2⟩⟩) h1)
  have e : l.map (fl ((rngI n).erase p)) = l.map (tn p) := by
    apply List.map_congr_left
    intro q hq
    obtain ⟨i1, i2, i3, i4, i5⟩ := w.inr q hq
    have m1 : q.1 ∈ (rngI n).erase p := (memE _).mpr ⟨hs q hq, mem_rng ⟨i1, i2⟩⟩
    unfold fl tn
    by_cases e2 : q.2 = p
    · have m2 : ¬ q.2 ∈ (rngI n).erase p := fun z => ((memE _).mp z).1 e2
      have pn : ¬ p ∈ (rngI n).erase p := fun z => ((memE _).mp z).1 rfl
      simp [m1, m2, e2, pn]
    · have m2 : q.2 ∈ (rngI n).erase p := (memE _).mpr ⟨e2, mem_rng ⟨i3, i4⟩⟩
      simp [m1, m2, e2]
  rw [e, hl] at h
  exact h
theorem Rch.symm {n : Nat} {a b : List Pr} (h : Rch n a b) (w : WebP n a) (ha : srt a = a) : Rch n b a := by
  induction h with
  | refl => exact .refl _
  | step k hp hs ih => exact (back_one (k.web w) (k.sorted ha) hp hs).trans ih
/-! ### the walk -/
noncomputable def st1 (at_ : Nat) (f : List (List Pr)) (p : Int) : List (List Pr) := match f[at_]? with
  | none => f
  | some c => if snk p c = true ∧ trn p c ∉ f then f ++ [trn p c] else f
noncomputable def stp (n : Nat) (f : List (List Pr)) (at_ : Nat) : List (List Pr) := (rngI n).foldl (st1 at_) f
noncomputable def bfs (n : Nat) : Nat → List (List Pr) → Nat → List (List Pr)
  | 0, f, _ => f
  | k + 1, f, at_ => if at_ < f.length then bfs n k (stp n f at_) (at_ + 1) else f
theorem st1_pre (at_ : Nat) (f : List (List Pr)) (p : Int) : f <+: st1 at_ f p := by
  unfold st1
  split
  · exact List.prefix_refl _
  · split
    · exact List.prefix_append _ _
    · exact List.prefix_refl _
theorem foldl_pre (at_ : Nat) : ∀ (ps : List Int) (f : List (List Pr)), f <+: ps.foldl (st1 at_) f
  | [], f => List.prefix_refl _
  | p :: ps, f => (st1_pre at_ f p).trans (foldl_pre at_ ps _)
/-- what holds on the way: of the webs found, each once, each of some flipped arrows, each reached -/
structure Bi (n : Nat) (l : List Pr) (f : List (List Pr)) : Prop where
  nd : f.Nodup
  fs : ∀ x ∈ f, ∃ m ∈ flips l, x = srt m
  rc : ∀ x ∈ f, Rch n (srt l) x
  hd : f[0]? = some (srt l)
theorem Bi.len {n : Nat} {l : List Pr} {f : List (List Pr)} (h : Bi n l f) : f.length ≤ 2 ^ l.length := by
  have : f.length ≤ ((flips l).map srt).length := h.nd.length_le_of_subset fun x hx => by
    obtain ⟨m, hm, rfl⟩ := h.fs x hx
    exact List.mem_map.mpr ⟨m, hm, rfl⟩
  rwa [List.length_map, flips_len] at this
theorem Bi.st1 {n : Nat} {l : List Pr} {f : List (List Pr)} (h : Bi n l f) {at_ : Nat} {p : Int} (hp : p ∈ rngI n) : Bi n l (st1 at_ f p) := by
  unfold K94.st1
  split
  · exact h
  · rename_i c hc
    have hm : c ∈ f := List.mem_of_getElem? hc
    split
    · rename_i hh
      obtain ⟨m, hm1, hm2⟩ := h.fs c hm
      refine ⟨?_, fun x hx => ?_, fun x hx => ?_, ?_⟩
      · rw [List.nodup_append]
        refine ⟨h.nd, by simp, fun a ha b hb => ?_⟩
        rw [List.mem_singleton.mp hb]
        exact fun e => hh.2 (e ▸ ha)
      · rcases List.mem_append.mp hx with hx | hx
        · exact h.fs x hx
        · rw [List.mem_singleton.mp hx]
          refine ⟨m.map (tn p), flips_tn p hm1, ?_⟩
          rw [hm2, trn_perm (srt_perm m)]
          rfl
      · rcases List.mem_append.mp hx with hx | hx
        · exact h.rc x hx
        · rw [List.mem_singleton.mp hx]
          exact (h.rc c hm).step hp hh.1
      · have : 0 < f.length := List.length_pos_of_mem hm
        rw [List.getElem?_append_left this]
        exact h.hd
    · exact h
theorem Bi.foldl {n : Nat} {l : List Pr} {at_ : Nat} : ∀ (ps : List Int) {f : List (List Pr)}, Bi n l f → (∀ p ∈ ps, p ∈ rngI n) → Bi n l (ps.foldl (K94.st1 at_) f)
  | [], _, h, _ => h
  | p :: ps, _, h, hp => Bi.foldl ps (h.st1 (hp p List.mem_cons_self)) fun x hx => hp x (List.mem_cons_of_mem _ hx)
theorem Bi.stp {n : Nat} {l : List Pr} {f : List (List Pr)} (h : Bi n l f) (at_ : Nat) : Bi n l (stp n f at_) := Bi.foldl _ h fun _ hp => hp
theorem get_pre {α : Type} {f g : List α} (h : f <+: g) {i : Nat} {c : α} (hc : f[i]? = some c) : g[i]? = some c := by
  obtain ⟨t, rfl⟩ := h
  rw [List.getElem?_append_left (List.getElem?_eq_some_iff.mp hc).1]
  exact hc
theorem st1_in {at_ : Nat} {f : List (List Pr)} {c : List Pr} (hc : f[at_]? = some c) {p : Int} (hs : snk p c = true) : trn p c ∈ st1 at_ f p := by
  unfold st1
  rw [hc]
  dsimp only
  by_cases h : trn p c ∈ f
  · rw [if_neg (fun e => e.2 h)]; exact h
  · rw [if_pos ⟨hs, h⟩]; exact List.mem_append_right _ (List.mem_singleton.mpr rfl)
theorem foldl_in {at_ : Nat} : ∀ (ps : List Int) {f : List (List Pr)} {c : List Pr}, f[at_]? = some c → ∀ p ∈ ps, snk p c = true → trn p c ∈ ps.foldl (st1 at_) f
  | q :: ps, f, c, hc, p, hp, hs => by
    rcases List.mem_cons.mp hp with rfl | hp
    · exact (foldl_pre at_ ps _).subset (st1_in hc hs)
    · exact foldl_in ps (get_pre (st1_pre at_ f q) hc) p hp hs
/-- closed up to a place -/
def Cl (n : Nat) (f : List (List Pr)) (at_ : Nat) : Prop := ∀ i c, i < at_ → f[i]? = some c → ∀ p ∈ rngI n, snk p c = true → trn p c ∈ f
theorem Cl.stp {n : Nat} {f : List (List Pr)} {at_ : Nat} (h : Cl n f at_) (ha : at_ < f.length) : Cl n (stp n f at_) (at_ + 1) := by
  intro i c hi hc p hp hs
  have pre : f <+: K94.stp n f at_ := foldl_pre at_ _ f
  have hf : f[i]? = some c := by
    have h1 : i < f.length := by omega
    have h2 := get_pre pre (List.getElem?_eq_getElem h1)
    rw [hc] at h2
    rw [List.getElem?_eq_getElem h1, h2]
  by_cases e : i < at_
  · exact pre.subset (h i c e hf p hp hs)
  · have : i = at_ := by omega
    subst this
    exact foldl_in _ hf p hp hs
theorem bfs_ok {n : Nat} {l : List Pr} : ∀ (k : Nat) {f : List (List Pr)} {at_ : Nat}, Bi n l f → Cl n f at_ → at_ ≤ f.length → 2 ^ l.length + 1 ≤ k + at_ → Bi n l (bfs n k f at_) ∧ Cl n (bfs n k f at_) (bfs n k f at_).length
  | 0, f, at_, h, c, ha, hk => by have := h.len; omega
  | k + 1, f, at_, h, c, ha, hk => by
    unfold bfs
    split
    · rename_i hh
      have pre : f <+: K94.stp n f at_ := foldl_pre at_ _ f
      exact bfs_ok k (h.stp at_) (c.stp hh) (by have := pre.length_le; omega) (by omega)
    · have : at_ = f.length := by omega
      subst this
      exact ⟨h, c⟩
noncomputable def shapes (n : Nat) (l : List Pr) : List (List Pr) := bfs n (2 ^ l.length + 1) [srt l] 0
theorem shapes_ok (n : Nat) (l : List Pr) : Bi n l (shapes n l) ∧ Cl n (shapes n l) (shapes n l).length := by
  refine bfs_ok _ ⟨by simp, fun x hx => ?_, fun x hx => ?_, rfl⟩ (fun i c hi => by omega) (by simp) (by omega)
  · rw [List.mem_singleton.mp hx]; exact ⟨l, flips_self l, rfl⟩
  · rw [List.mem_singleton.mp hx]; exact .refl _
theorem mem_shapes {n : Nat} {l x : List Pr} : x ∈ shapes n l ↔ Rch n (srt l) x := by
  obtain ⟨h1, h2⟩ := shapes_ok n l
  refine ⟨h1.rc x, fun h => ?_⟩
  induction h with
  | refl => exact List.mem_of_getElem? h1.hd
  | step _ hp hs ih =>
    obtain ⟨i, hi, e⟩ := List.mem_iff_getElem.mp ih
    exact h2 i _ hi (by rw [List.getElem?_eq_getElem hi, e]) _ hp hs
theorem shapes_same {n : Nat} {l z : List Pr} (w : WebP n l) (hz : z ∈ shapes n l) : (shapes n z).Perm (shapes n l) := by
  have h := mem_shapes.mp hz
  have sz : srt z = z := h.sorted (srt_srt l)
  have hb := h.symm w.srt (srt_srt l)
  rw [List.perm_ext_iff_of_nodup (shapes_ok n z).1.nd (shapes_ok n l).1.nd]
  intro x
  rw [mem_shapes, mem_shapes, sz]
  exact ⟨fun k => h.trans k, fun k => hb.trans k⟩
end K94
namespace K94
open PySem PySem.Spec L2 Ev Ma
/-! ### how many orders -/
def cp (o2 o1 : List Int) : List Int := o1.map (pl o2)
theorem pl_cp {n : Int} {o1 o2 : List Int} (h : OrdP n o1) {i : Int} (hi : 0 ≤ i ∧ i < n) : pl (cp o2 o1) i = pl o2 (pl o1 i) := by
  obtain ⟨hk, e⟩ := pl_get h hi
  rw [e]
  simp [pl, cp, hk]
theorem ord_ext {n : Int} {o p : List Int} (ho : OrdP n o) (hp : OrdP n p) (h : ∀ i, 0 ≤ i ∧ i < n → pl o i = pl p i) : o = p := by
  apply List.ext_getElem
  · have := ho.1; have := hp.1; omega
  · intro i h1 h2
    have hi : 0 ≤ (i : Int) ∧ (i : Int) < n := by have := ho.1; omega
    have := h i hi
    simpa [pl, h1, h2] using this
theorem nodup_map {α β : Type} {f : α → β} : ∀ {l : List α}, (∀ a ∈ l, ∀ b ∈ l, f a = f b → a = b) → l.Nodup → (l.map f).Nodup
  | [], _, _ => by simp
  | a :: l, h, d => by
    rw [List.nodup_cons] at d
    rw [List.map_cons, List.nodup_cons]
    refine ⟨fun e => ?_, nodup_map (fun x hx y hy => h x (List.mem_cons_of_mem _ hx) y (List.mem_cons_of_mem _ hy)) d.2⟩
    obtain ⟨b, hb, e⟩ := List.mem_map.mp e
    have := h b (List.mem_cons_of_mem _ hb) a List.mem_cons_self e
    exact d.1 (this ▸ hb)
theorem cp_ord {n : Int} {o1 o2 : List Int} (h1 : OrdP n o1) (h2 : OrdP n o2) : OrdP n (cp o2 o1) := by
  refine ⟨by unfold cp; rw [List.length_map]; exact h1.1, ?_, fun x hx => ?_⟩
  · exact nodup_map (fun a ha b hb e => pl_inj h2 (h1.2.2 a ha) (h1.2.2 b hb) e) h1.2.1
  · obtain ⟨a, ha, rfl⟩ := List.mem_map.mp hx
    exact pl_in h2 (h1.2.2 a ha)
theorem ap_cp {n : Int} {o1 o2 : List Int} (h1 : OrdP n o1) {l : List Pr} (hl : Inr n l) : l.map (ap (cp o2 o1)) = (l.map (ap o1)).map (ap o2) := by
  rw [List.map_map]
  apply List.map_congr_left
  intro q hq
  obtain ⟨i1, i2, i3, i4, i5⟩ := hl q hq
  show (pl (cp o2 o1) q.1, pl (cp o2 o1) q.2) = (pl o2 (pl o1 q.1), pl o2 (pl o1 q.2))
  rw [pl_cp h1 ⟨i1, i2⟩, pl_cp h1 ⟨i3, i4⟩]
theorem inv_all : ∀ n : Nat, n ≤ 4 → ((pm n).all fun o => (pm n).any fun p => (rngI n).all fun i => decide (pl p (pl o i) = i) && decide (pl o (pl p i) = i)) = true := by decide +kernel
theorem inv_ex {n : Nat} (hn : 1 ≤ n ∧ n ≤ 4) {o : List Int} (ho : OrdP n o) : ∃ p, OrdP n p ∧ (∀ i, 0 ≤ i ∧ i < (n : Int) → pl p (pl o i) = i ∧ pl o (pl p i) = i) := by
  obtain ⟨p, hp, h⟩ := List.any_eq_true.mp (List.all_eq_true.mp (inv_all n hn.2) o (in_pm hn ho))
  refine ⟨p, pm_ord hn.2 hp, fun i hi => ?_⟩
  have := List.all_eq_true.mp h i (mem_rng hi)
  simpa using this
theorem okB_iff {l m : List Pr} {o : List Int} : okB l m o = true ↔ (l.map (ap o)).Perm m := by
  unfold okB
  rw [decide_eq_true_iff, srt_iff]
theorem okB_perm {l l' m m' : List Pr} (h1 : l.Perm l') (h2 : m.Perm m') (o : List Int) : okB l m o = okB l' m' o := by
  rw [Bool.eq_iff_iff, okB_iff, okB_iff]
  exact ⟨fun h => ((h1.symm.map _).trans h).trans h2, fun h => ((h1.map _).trans h).trans h2.symm⟩
theorem cut_le {n : Nat} (hn : 1 ≤ n ∧ n ≤ 4) {p q : List Int → Bool} (f : List Int → List Int) (hf : ∀ o, OrdP n o → p o = true → OrdP n (f o) ∧ q (f o) = true) (inj : ∀ o o', OrdP n o → OrdP n o' → f o = f o' → o = o') : ((pm n).filter p).length ≤ ((pm n).filter q).length := by
  have nd : (((pm n).filter p).map f).Nodup := nodup_map (fun a ha b hb e => inj a b (pm_ord hn.2 (List.mem_filter.mp ha).1) (pm_ord hn.2 (List.mem_filter.mp hb).1) e) ((pm_nodup n hn.2).filter _)
  have := nd.length_le_of_subset (l₂ := (pm n).filter q) fun x hx => by
    obtain ⟨a, ha, rfl⟩ := List.mem_map.mp hx
    obtain ⟨h1, h2⟩ := List.mem_filter.mp ha
    obtain ⟨h3, h4⟩ := hf a (pm_ord hn.2 h1) h2
    exact List.mem_filter.mpr ⟨in_pm hn h3, h4⟩
  rwa [List.length_map] at this
theorem cp_left {n : Int} {o o' p : List Int} (hp : OrdP n p) (h1 : OrdP n o) (h2 : OrdP n o') (e : cp p o = cp p o') : o = o' :=
  ord_ext h1 h2 fun i hi => by
    have := congrArg (fun z => pl z i) e
    simp only [pl_cp h1 hi, pl_cp h2 hi] at this
    exact pl_inj hp (pl_in h1 hi) (pl_in h2 hi) this
theorem cp_right {n : Nat} (hn : 1 ≤ n ∧ n ≤ 4) {o o' p : List Int} (hp : OrdP n p) (h1 : OrdP n o) (h2 : OrdP n o') (e : cp o p = cp o' p) : o = o' :=
  ord_ext h1 h2 fun i hi => by
    obtain ⟨r, hr, hv⟩ := inv_ex hn hp
    have := congrArg (fun z => pl z (pl r i)) e
    simp only [pl_cp hp (pl_in hr hi), (hv i hi).2] at this
    exact this
theorem inv_ap {n : Int} {o p : List Int} (h : ∀ i, 0 ≤ i ∧ i < n → pl p (pl o i) = i ∧ pl o (pl p i) = i) {l : List Pr} (hl : Inr n l) : (l.map (ap o)).map (ap p) = l := by
  rw [List.map_map]
  conv => rhs; rw [← List.map_id l]
  apply List.map_congr_left
  intro q hq
  obtain ⟨i1, i2, i3, i4, i5⟩ := hl q hq
  show (pl p (pl o q.1), pl p (pl o q.2)) = q
  rw [(h q.1 ⟨i1, i2⟩).1, (h q.2 ⟨i3, i4⟩).1]
/-- as many orders to a like web as of one's own -/
theorem same_many {n : Nat} (hn : 1 ≤ n ∧ n ≤ 4) {l m : List Pr} (hl : Inr n l) {o0 : List Int} (h0 : OrdP n o0) (k : (l.map (ap o0)).Perm m) : ((pm n).filter (okB l m)).length = ((pm n).filter (okB l l)).length := by
  obtain ⟨r, hr, hv⟩ := inv_ex hn h0
  apply Nat.le_antisymm
  · refine cut_le hn (fun o => cp r o) (fun o ho h => ⟨cp_ord ho hr, okB_iff.mpr ?_⟩) fun o o' h1 h2 e => cp_left hr h1 h2 e
    rw [ap_cp ho hl]
    have := ((okB_iff.mp h).trans k.symm).map (ap r)
    rwa [inv_ap hv hl] at this
  · refine cut_le hn (fun o => cp o0 o) (fun o ho h => ⟨cp_ord ho h0, okB_iff.mpr ?_⟩) fun o o' h1 h2 e => cp_left h0 h1 h2 e
    rw [ap_cp ho hl]
    exact ((okB_iff.mp h).map _).trans k
theorem same_own {n : Nat} (hn : 1 ≤ n ∧ n ≤ 4) {l m : List Pr} (hl : Inr n l) {o0 : List Int} (h0 : OrdP n o0) (k : (l.map (ap o0)).Perm m) : ((pm n).filter (okB m m)).length = ((pm n).filter (okB l l)).length := by
  rw [← same_many hn hl h0 k]
  have hm : Inr n m := inr_perm k (inr_ap h0 hl)
  obtain ⟨r, hr, hv⟩ := inv_ex hn h0
  have kr : (m.map (ap r)).Perm l := by
    have := (k.map (ap r)).symm
    rwa [inv_ap hv hl] at this
  apply Nat.le_antisymm
  · refine cut_le hn (fun o => cp o o0) (fun o ho h => ⟨cp_ord h0 ho, okB_iff.mpr ?_⟩) fun o o' h1 h2 e => cp_right hn h0 h1 h2 e
    rw [ap_cp h0 hl]
    exact (k.map _).trans (okB_iff.mp h)
  · refine cut_le hn (fun o => cp o r) (fun o ho h => ⟨cp_ord hr ho, okB_iff.mpr ?_⟩) fun o o' h1 h2 e => cp_right hn hr h1 h2 e
    rw [ap_cp hr hm]
    exact (kr.map _).trans (okB_iff.mp h)
theorem ord_rng (n : Nat) : OrdP n (rngI n) := rng_ord n (List.Perm.refl _)
theorem pl_rng {n : Nat} {i : Int} (hi : 0 ≤ i ∧ i < n) : pl (rngI n) i = i := by
  have hk : i.toNat < n := by omega
  unfold pl rngI
  rw [List.getElem?_map, List.getElem?_range hk]
  show ((i.toNat : Nat) : Int) = i
  omega
theorem ap_rng {n : Nat} {l : List Pr} (hl : Inr n l) : l.map (ap (rngI n)) = l := by
  conv => rhs; rw [← List.map_id l]
  apply List.map_congr_left
  intro q hq
  obtain ⟨i1, i2, i3, i4, i5⟩ := hl q hq
  show (pl (rngI n) q.1, pl (rngI n) q.2) = q
  rw [pl_rng ⟨i1, i2⟩, pl_rng ⟨i3, i4⟩]
theorem rng_own {n : Nat} (hn : 1 ≤ n ∧ n ≤ 4) {l : List Pr} (hl : Inr n l) : rngI n ∈ (pm n).filter (okB l l) := by
  refine List.mem_filter.mpr ⟨in_pm hn (ord_rng n), okB_iff.mpr ?_⟩
  rw [ap_rng hl]
theorem find_filter {α : Type} (p : α → Bool) (l : List α) : l.find? p = (l.filter p).head? := by simp
end K94
namespace K94
open PySem PySem.Spec L2 Ev Ma
/-! ### the hand -/
def hnd (cs : List Int) (i l s k : Int) : List D := [.lst (cs.map .int), .int i, .int l, .int s, .int k]
structure HandP (h : List D) : Prop where
  ex : ∃ cs i l s k, h = hnd cs i l s k ∧ (∀ c ∈ cs, 0 ≤ c) ∧ 0 ≤ i ∧ 0 ≤ l ∧ 0 ≤ s ∧ s < 4294967296 ∧ 0 ≤ k
theorem i50 (a b c d e : D) : ixD (.lst [a, b, c, d, e]) (.int 0) = some (.sh a) := rfl
theorem i51 (a b c d e : D) : ixD (.lst [a, b, c, d, e]) (.int 1) = some (.sh b) := rfl
theorem i52 (a b c d e : D) : ixD (.lst [a, b, c, d, e]) (.int 2) = some (.sh c) := rfl
theorem i53 (a b c d e : D) : ixD (.lst [a, b, c, d, e]) (.int 3) = some (.sh d) := rfl
theorem i54 (a b c d e : D) : ixD (.lst [a, b, c, d, e]) (.int 4) = some (.sh e) := rfl
theorem n51 : ixN 5 1 = some 1 := rfl
theorem n52 : ixN 5 2 = some 2 := rfl
theorem n53 : ixN 5 3 = some 3 := rfl
theorem n54 : ixN 5 4 = some 4 := rfl
theorem mulR {a b : Int} (h : -18446744073709551616 < b ∧ b < 18446744073709551616) : mulD (.int a) (.int b) = some (.sh (.int (a * b))) := by
  simp only [mulD]
  rw [if_pos (.inr h)]
theorem mulL {a b : Int} (h : -18446744073709551616 < a ∧ a < 18446744073709551616) : mulD (.int a) (.int b) = some (.sh (.int (a * b))) := by
  simp only [mulD]
  rw [if_pos (.inl h)]
theorem addI (a b : Int) : addD (.int a) (.int b) = some (.sh (.int (a + b))) := rfl
theorem subI (a b : Int) : subD (.int a) (.int b) = some (.sh (.int (a - b))) := rfl
theorem modI {a b : Int} (h : 0 < b) : modD (.int a) (.int b) = some (.sh (.int (a % b))) := by
  simp only [modD, int2]
  rw [if_pos h]
theorem fdivI {a b : Int} (h : 0 < b ∧ b < 1073741824) : fdivD (.int a) (.int b) = some (.sh (.int (a / b))) := by
  simp only [fdivD, int2]
  rw [if_pos h]
theorem intI (a : Int) : intD [.int a] = some (.sh (.int a)) := rfl
theorem lenL (xs : List D) : lenD [.lst xs] = some (.sh (.int xs.length)) := rfl
theorem pow18 : powD (.int 10) (.int 18) = some (.sh (.int 1000000000000000000)) := by
  simp only [powD, int2]
  rw [if_pos (by decide)]
  rfl
noncomputable def dr1 : FS := (ifS (andT (cmpT eqD (binF ixD (varF 0) (shF (.int 2))) (shF (.int 0))) (cmpT (cm2 fun i j => decide (i < j)) (binF ixD (varF 0) (shF (.int 1))) (clF lenD (consA (binF ixD (varF 0) (shF (.int 0))) nilA)))) (seqF (setF 3 (binF ixD (binF ixD (varF 0) (shF (.int 0))) (binF ixD (varF 0) (shF (.int 1)))))
    (seqF (setIxF 0 (shF (.int 1)) (binF addD (binF ixD (varF 0) (shF (.int 1))) (shF (.int 1))))
    (seqF (setIxF 0 (shF (.int 3)) (binF modD (clF intD (consA (binF addD (binF addD (binF mulD (binF ixD (varF 0) (shF (.int 3))) (shF (.int 69621))) (binF mulD (varF 3) (shF (.int 40692)))) (shF (.int 37))) nilA)) (shF (.int 2147483629))))
    (ifS (cmpT (cm2 fun i j => decide (j ≤ i)) (varF 3) (binF powD (shF (.int 10)) (shF (.int 18)))) (setIxF 0 (shF (.int 2)) (varF 3)) nxF)))) nxF)
noncomputable def dr2 : FS := (ifS (cmpT (cm2 fun i j => decide (j < i)) (binF ixD (varF 0) (shF (.int 2))) (shF (.int 0))) (seqF (setF 4 (binF modD (clF intD (consA (binF ixD (varF 0) (shF (.int 2))) nilA)) (varF 1)))
    (seqF (setIxF 0 (shF (.int 2)) (binF fdivD (binF ixD (varF 0) (shF (.int 2))) (varF 1)))
    (retF (varF 4)))) nxF)
noncomputable def dr3 : FS := (seqF (setIxF 0 (shF (.int 4)) (binF addD (binF ixD (varF 0) (shF (.int 4))) (shF (.int 1))))
    (seqF (setF 2 (binF modD (clF intD (consA (binF mulD (clF intD (consA (binF addD (binF ixD (varF 0) (shF (.int 3))) (binF mulD (shF (.int 7919)) (binF ixD (varF 0) (shF (.int 4))))) nilA)) (shF (.int 48271))) nilA)) (shF (.int 2147483647))))
    (seqF (setF 2 (binF modD (clF intD (consA (binF mulD (varF 2) (binF addD (binF fdivD (varF 2) (shF (.int 1009))) (shF (.int 69621)))) nilA)) (shF (.int 2147483647))))
    (seqF (setF 2 (binF modD (clF intD (consA (binF mulD (varF 2) (binF addD (binF fdivD (varF 2) (shF (.int 2003))) (shF (.int 40014)))) nilA)) (shF (.int 2147483563))))
    (retF (binF modD (clF intD (consA (binF fdivD (varF 2) (shF (.int 16))) nilA)) (varF 1)))))))
theorem dr_eq : g__law_draw = seqF dr1 (seqF dr2 dr3) := rfl
theorem dr3_ok (cs : List Int) {i s k m : Int} (hs : 0 ≤ s ∧ s < 4294967296) (hk : 0 ≤ k) (hm : 1 ≤ m) {e3 : Ent} (o3 : opn (some e3)) : ∃ r e, 0 ≤ r ∧ r < m ∧ dr3 [.io (.lst (hnd cs i 0 s k)), .sh (.int m), .no, e3, .no] = some (.rt (.sh (.int r)) (.io (.lst (hnd cs i 0 s (k + 1))) :: e)) := by
  have hm' : 0 < m := by omega
  have a1 : 0 ≤ (s + 7919 * (k + 1)) * 48271 % 2147483647 ∧ (s + 7919 * (k + 1)) * 48271 % 2147483647 < 2147483647 := by omega
  generalize h1 : (s + 7919 * (k + 1)) * 48271 % 2147483647 = n1 at a1
  have a2 : 0 ≤ n1 * (n1 / 1009 + 69621) % 2147483647 ∧ n1 * (n1 / 1009 + 69621) % 2147483647 < 2147483647 := ⟨Int.emod_nonneg _ (by decide), Int.emod_lt_of_pos _ (by decide)⟩
  generalize h2 : n1 * (n1 / 1009 + 69621) % 2147483647 = n2 at a2
  have a3 : 0 ≤ n2 * (n2 / 2003 + 40014) % 2147483563 ∧ n2 * (n2 / 2003 + 40014) % 2147483563 < 2147483563 := ⟨Int.emod_nonneg _ (by decide), Int.emod_lt_of_pos _ (by decide)⟩
  generalize h3 : n2 * (n2 / 2003 + 40014) % 2147483563 = n3 at a3
  have m1 := mulR (a := s + 7919 * (k + 1)) (b := 48271) (by decide)
  have m2 := mulL (a := n1) (b := n1 / 1009 + 69621) (by omega)
  have m3 := mulL (a := n2) (b := n2 / 2003 + 40014) (by omega)
  have m4 := mulL (a := 7919) (b := k + 1) (by decide)
  have d1 := fdivI (a := n1) (b := 1009) (by decide)
  have d2 := fdivI (a := n2) (b := 2003) (by decide)
  have d3 := fdivI (a := n3) (b := 16) (by decide)
  have q1 := modI (a := (s + 7919 * (k + 1)) * 48271) (b := 2147483647) (by decide)
  have q2 := modI (a := n1 * (n1 / 1009 + 69621)) (b := 2147483647) (by decide)
  have q3 := modI (a := n2 * (n2 / 2003 + 40014)) (b := 2147483563) (by decide)
  have q4 := modI (a := n3 / 16) hm'
  rw [h1] at q1
  rw [h2] at q2
  rw [h3] at q3
  refine ⟨n3 / 16 % m, [.sh (.int m), .sh (.int n3), e3, .no], Int.emod_nonneg _ (by omega), Int.emod_lt_of_pos _ hm', ?_⟩
  unfold hnd dr3
  simp only [runF, ini, fin, retF, exprF, setF, nxF, seqF, ifS, bS_nx, bS_rt, bS, bES, bES_ok, andF, orF, unF, notF, negF, varF, shF, bE, bE_ok, bEt, bT, bA, bA_ok, peek, peeks, store, stores, put, free, Val.norm, truthD, consA, nilA, tupF_ap, lstF_ap, dispF, clF, caF, chF, chT, binF, cmpT, oBl, cm2, on1, truF, notT, andT, orT, ifF, lstFreeV, lstFree, lstFrees, List.map, List.append, List.replicate, List.length, List.getElem?_cons_zero, List.getElem?_cons_succ, List.cons_append, List.nil_append, List.set_cons_zero, List.set_cons_succ, Option.map, Option.bind, if_true, Nat.reduceAdd, Nat.reduceSub, Nat.zero_add, List.length_cons, List.length_nil, Bool.not_true, Bool.not_false, Bool.true_and, reduceIte, Bool.false_eq_true, if_false, Option.map_some, Option.bind_some, Nat.sub_self, List.replicate_zero, List.replicate_succ, Nat.succ_sub_succ_eq_sub, Nat.sub_zero, setIxF, isLst, lstAt, lstSet, i50, i51, i52, i53, i54, n51, n52, n53, n54, Option.isSome, addI, intI, m1, m2, m3, m4, d1, d2, d3, q1, q2, q3, q4]
theorem dr2_pos (cs : List Int) {i l s k m : Int} (hl : 0 < l) (hm : 1 ≤ m ∧ m ≤ 1000000) {e3 : Ent} : ∃ e, dr2 [.io (.lst (hnd cs i l s k)), .sh (.int m), .no, e3, .no] = some (.rt (.sh (.int (l % m))) (.io (.lst (hnd cs i (l / m) s k)) :: e)) := by
  have hm' : 0 < m := by omega
  have d1 := fdivI (a := l) (b := m) (by omega)
  have q1 := modI (a := l) (b := m) hm'
  have t1 : decide (0 < l) = true := decide_eq_true hl
  refine ⟨[.sh (.int m), .no, e3, .sh (.int (l % m))], ?_⟩
  unfold hnd dr2
  simp only [runF, ini, fin, retF, exprF, setF, nxF, seqF, ifS, bS_nx, bS_rt, bS, bES, bES_ok, andF, orF, unF, notF, negF, varF, shF, bE, bE_ok, bEt, bT, bA, bA_ok, peek, peeks, store, stores, put, free, Val.norm, truthD, consA, nilA, tupF_ap, lstF_ap, dispF, clF, caF, chF, chT, binF, cmpT, oBl, cm2, on1, truF, notT, andT, orT, ifF, lstFreeV, lstFree, lstFrees, List.map, List.append, List.replicate, List.length, List.getElem?_cons_zero, List.getElem?_cons_succ, List.cons_append, List.nil_append, List.set_cons_zero, List.set_cons_succ, Option.map, Option.bind, if_true, Nat.reduceAdd, Nat.reduceSub, Nat.zero_add, List.length_cons, List.length_nil, Bool.not_true, Bool.not_false, Bool.true_and, reduceIte, Bool.false_eq_true, if_false, Option.map_some, Option.bind_some, Nat.sub_self, List.replicate_zero, List.replicate_succ, Nat.succ_sub_succ_eq_sub, Nat.sub_zero, setIxF, isLst, lstAt, lstSet, i50, i51, i52, i53, i54, n51, n52, n53, n54, Option.isSome, addI, intI, d1, q1, t1]
theorem dr2_zero (cs : List Int) {i s k m : Int} {e3 : Ent} : dr2 [.io (.lst (hnd cs i 0 s k)), .sh (.int m), .no, e3, .no] = some (.nx [.io (.lst (hnd cs i 0 s k)), .sh (.int m), .no, e3, .no]) := by
  have t1 : decide ((0 : Int) < 0) = false := rfl
  unfold hnd dr2
  simp only [runF, ini, fin, retF, exprF, setF, nxF, seqF, ifS, bS_nx, bS_rt, bS, bES, bES_ok, andF, orF, unF, notF, negF, varF, shF, bE, bE_ok, bEt, bT, bA, bA_ok, peek, peeks, store, stores, put, free, Val.norm, truthD, consA, nilA, tupF_ap, lstF_ap, dispF, clF, caF, chF, chT, binF, cmpT, oBl, cm2, on1, truF, notT, andT, orT, ifF, lstFreeV, lstFree, lstFrees, List.map, List.append, List.replicate, List.length, List.getElem?_cons_zero, List.getElem?_cons_succ, List.cons_append, List.nil_append, List.set_cons_zero, List.set_cons_succ, Option.map, Option.bind, if_true, Nat.reduceAdd, Nat.reduceSub, Nat.zero_add, List.length_cons, List.length_nil, Bool.not_true, Bool.not_false, Bool.true_and, reduceIte, Bool.false_eq_true, if_false, Option.map_some, Option.bind_some, Nat.sub_self, List.replicate_zero, List.replicate_succ, Nat.succ_sub_succ_eq_sub, Nat.sub_zero, i52, t1]
theorem dr1_ok {cs : List Int} {i l s k m : Int} (hc : ∀ c ∈ cs, 0 ≤ c) (hi : 0 ≤ i) (hl : 0 ≤ l) (hs : 0 ≤ s ∧ s < 4294967296) : ∃ i' l' s' e3, 0 ≤ i' ∧ 0 ≤ l' ∧ (0 ≤ s' ∧ s' < 4294967296) ∧ opn (some e3) ∧
    dr1 [.io (.lst (hnd cs i l s k)), .sh (.int m), .no, .no, .no] = some (.nx [.io (.lst (hnd cs i' l' s' k)), .sh (.int m), .no, e3, .no]) := by
  by_cases h1 : l = 0
  · subst h1
    by_cases h2 : i < cs.length
    · obtain ⟨j, rfl⟩ := Int.eq_ofNat_of_zero_le hi
      have hj : j < cs.length := by omega
      generalize hce : cs[j] = c
      have hc0 : 0 ≤ c := hc c (hce ▸ List.getElem_mem hj)
      have ix : ixD (.lst (cs.map D.int)) (.int (j : Int)) = some (.sh (.int c)) := by
        have := L2.atI_nat (xs := cs.map D.int) (j := j) (v := D.int c) (by simp [hj, hce])
        simp only [ixD, this, Option.map_some]
      have m1 := mulR (a := s) (b := 69621) (by decide)
      have m2 := mulR (a := c) (b := 40692) (by decide)
      have q1 := modI (a := s * 69621 + c * 40692 + 37) (b := 2147483629) (by decide)
      have b1 : 0 ≤ (s * 69621 + c * 40692 + 37) % 2147483629 ∧ (s * 69621 + c * 40692 + 37) % 2147483629 < 2147483629 := by omega
      generalize (s * 69621 + c * 40692 + 37) % 2147483629 = s' at q1 b1
      have t1 : decide ((j : Int) < cs.length) = true := decide_eq_true h2
      by_cases h3 : 1000000000000000000 ≤ c
      · have t2 : decide (1000000000000000000 ≤ c) = true := decide_eq_true h3
        refine ⟨j + 1, c, s', .sh (.int c), by omega, hc0, by omega, .inr ⟨_, rfl⟩, ?_⟩
        unfold hnd dr1
        simp only [runF, ini, fin, retF, exprF, setF, nxF, seqF, ifS, bS_nx, bS_rt, bS, bES, bES_ok, andF, orF, unF, notF, negF, varF, shF, bE, bE_ok, bEt, bT, bA, bA_ok, peek, peeks, store, stores, put, free, Val.norm, truthD, consA, nilA, tupF_ap, lstF_ap, dispF, clF, caF, chF, chT, binF, cmpT, oBl, cm2, on1, truF, notT, andT, orT, ifF, lstFreeV, lstFree, lstFrees, List.map, List.append, List.replicate, List.length, List.getElem?_cons_zero, List.getElem?_cons_succ, List.cons_append, List.nil_append, List.set_cons_zero, List.set_cons_succ, Option.map, Option.bind, if_true, Nat.reduceAdd, Nat.reduceSub, Nat.zero_add, List.length_cons, List.length_nil, Bool.not_true, Bool.not_false, Bool.true_and, reduceIte, Bool.false_eq_true, if_false, Option.map_some, Option.bind_some, Nat.sub_self, List.replicate_zero, List.replicate_succ, Nat.succ_sub_succ_eq_sub, Nat.sub_zero, setIxF, isLst, lstAt, lstSet, i50, i51, i52, i53, i54, n51, n52, n53, n54, Option.isSome, addI, intI, m1, m2, q1, t1, t2, pow18, lenL, List.length_map, eqD_int, decide_true, ix]
      · have t2 : decide (1000000000000000000 ≤ c) = false := decide_eq_false h3
        refine ⟨j + 1, 0, s', .sh (.int c), by omega, by omega, by omega, .inr ⟨_, rfl⟩, ?_⟩
        unfold hnd dr1
        simp only [runF, ini, fin, retF, exprF, setF, nxF, seqF, ifS, bS_nx, bS_rt, bS, bES, bES_ok, andF, orF, unF, notF, negF, varF, shF, bE, bE_ok, bEt, bT, bA, bA_ok, peek, peeks, store, stores, put, free, Val.norm, truthD, consA, nilA, tupF_ap, lstF_ap, dispF, clF, caF, chF, chT, binF, cmpT, oBl, cm2, on1, truF, notT, andT, orT, ifF, lstFreeV, lstFree, lstFrees, List.map, List.append, List.replicate, List.length, List.getElem?_cons_zero, List.getElem?_cons_succ, List.cons_append, List.nil_append, List.set_cons_zero, List.set_cons_succ, Option.map, Option.bind, if_true, Nat.reduceAdd, Nat.reduceSub, Nat.zero_add, List.length_cons, List.length_nil, Bool.not_true, Bool.not_false, Bool.true_and, reduceIte, Bool.false_eq_true, if_false, Option.map_some, Option.bind_some, Nat.sub_self, List.replicate_zero, List.replicate_succ, Nat.succ_sub_succ_eq_sub, Nat.sub_zero, setIxF, isLst, lstAt, lstSet, i50, i51, i52, i53, i54, n51, n52, n53, n54, Option.isSome, addI, intI, m1, m2, q1, t1, t2, pow18, lenL, List.length_map, eqD_int, decide_true, ix]
    · have t1 : decide (i < cs.length) = false := decide_eq_false h2
      refine ⟨i, 0, s, .no, hi, by omega, hs, .inl rfl, ?_⟩
      unfold hnd dr1
      simp only [runF, ini, fin, retF, exprF, setF, nxF, seqF, ifS, bS_nx, bS_rt, bS, bES, bES_ok, andF, orF, unF, notF, negF, varF, shF, bE, bE_ok, bEt, bT, bA, bA_ok, peek, peeks, store, stores, put, free, Val.norm, truthD, consA, nilA, tupF_ap, lstF_ap, dispF, clF, caF, chF, chT, binF, cmpT, oBl, cm2, on1, truF, notT, andT, orT, ifF, lstFreeV, lstFree, lstFrees, List.map, List.append, List.replicate, List.length, List.getElem?_cons_zero, List.getElem?_cons_succ, List.cons_append, List.nil_append, List.set_cons_zero, List.set_cons_succ, Option.map, Option.bind, if_true, Nat.reduceAdd, Nat.reduceSub, Nat.zero_add, List.length_cons, List.length_nil, Bool.not_true, Bool.not_false, Bool.true_and, reduceIte, Bool.false_eq_true, if_false, Option.map_some, Option.bind_some, Nat.sub_self, List.replicate_zero, List.replicate_succ, Nat.succ_sub_succ_eq_sub, Nat.sub_zero, i50, i51, i52, t1, lenL, List.length_map, eqD_int, decide_true]
  · have t1 : decide (l = 0) = false := decide_eq_false h1
    refine ⟨i, l, s, .no, hi, hl, hs, .inl rfl, ?_⟩
    unfold hnd dr1
    simp only [runF, ini, fin, retF, exprF, setF, nxF, seqF, ifS, bS_nx, bS_rt, bS, bES, bES_ok, andF, orF, unF, notF, negF, varF, shF, bE, bE_ok, bEt, bT, bA, bA_ok, peek, peeks, store, stores, put, free, Val.norm, truthD, consA, nilA, tupF_ap, lstF_ap, dispF, clF, caF, chF, chT, binF, cmpT, oBl, cm2, on1, truF, notT, andT, orT, ifF, lstFreeV, lstFree, lstFrees, List.map, List.append, List.replicate, List.length, List.getElem?_cons_zero, List.getElem?_cons_succ, List.cons_append, List.nil_append, List.set_cons_zero, List.set_cons_succ, Option.map, Option.bind, if_true, Nat.reduceAdd, Nat.reduceSub, Nat.zero_add, List.length_cons, List.length_nil, Bool.not_true, Bool.not_false, Bool.true_and, reduceIte, Bool.false_eq_true, if_false, Option.map_some, Option.bind_some, Nat.sub_self, List.replicate_zero, List.replicate_succ, Nat.succ_sub_succ_eq_sub, Nat.sub_zero, i52, t1, eqD_int]
theorem ok_draw {h : List D} (H : HandP h) {m : Int} (hm : 1 ≤ m ∧ m ≤ 1000000) : ∃ h' r, HandP h' ∧ 0 ≤ r ∧ r < m ∧ f__law_draw h [.int m] = some (h', .sh (.int r)) := by
  obtain ⟨cs, i, l, s, k, rfl, c1, c2, c3, c4, c5, c6⟩ := H.ex
  obtain ⟨i', l', s', e3, g1, g2, g3, g4, e1⟩ := dr1_ok (k := k) (m := m) c1 c2 c3 ⟨c4, c5⟩
  have ini : iniI 5 (hnd cs i l s k) [.int m] = [.io (.lst (hnd cs i l s k)), .sh (.int m), .no, .no, .no] := rfl
  by_cases hl : 0 < l'
  · obtain ⟨e, e2⟩ := dr2_pos cs (i := i') (s := s') (k := k) hl hm (e3 := e3)
    refine ⟨hnd cs i' (l' / m) s' k, l' % m, ⟨cs, i', l' / m, s', k, rfl, c1, g1, Int.ediv_nonneg g2 (by omega), g3.1, g3.2, c6⟩, Int.emod_nonneg _ (by omega), Int.emod_lt_of_pos _ (by omega), ?_⟩
    unfold f__law_draw runI
    rw [if_pos (by simp), ini, dr_eq]
    unfold seqF
    rw [e1, bS_nx, e2]
    rfl
  · have : l' = 0 := by omega
    subst this
    obtain ⟨r, e, h1, h2, e2⟩ := dr3_ok cs (i := i') g3 c6 hm.1 g4
    refine ⟨hnd cs i' 0 s' (k + 1), r, ⟨cs, i', 0, s', k + 1, rfl, c1, g1, by omega, g3.1, g3.2, by omega⟩, h1, h2, ?_⟩
    unfold f__law_draw runI
    rw [if_pos (by simp), ini, dr_eq]
    unfold seqF
    rw [e1, bS_nx, dr2_zero, bS_nx, e2]
    rfl
end K94
namespace K94
open PySem PySem.Spec L2 Ev Ma
theorem io_call {f : Fi} {h h' : List D} {r : Val} {ds : List D} {fs : FA} {rs : List Val} {es e1 : List Ent} (ha : fs (.io (.lst h) :: es) = some (.ok rs (.io (.lst h) :: e1))) (hs : stores (.io (.lst h) :: e1) rs = some (ds, .io (.lst h) :: e1)) (hf : f h ds = some (h', r)) : ioF 0 f fs (.io (.lst h) :: es) = some (.ok r (.io (.lst h') :: e1)) := by
  simp only [ioF, isLst, lstAt, lstSet, List.getElem?_cons_zero, Option.isSome, if_true, ha, bA, hs, hf, Option.map_some, List.set_cons_zero]
theorem perm_erase {α : Type} : ∀ {l : List α} {j : Nat} (h : j < l.length), (l[j] :: l.eraseIdx j).Perm l
  | [], j, h => by simp at h
  | a :: l, 0, _ => by simp
  | a :: l, j + 1, h => by
    have ih := perm_erase (l := l) (j := j) (by simpa using h)
    simp only [List.getElem_cons_succ, List.eraseIdx_cons_succ]
    exact (List.Perm.swap _ _ _).trans (ih.cons a)
structure DrawOk (F : Fi) : Prop where
  go : ∀ h, HandP h → ∀ m : Int, 1 ≤ m ∧ m ≤ 1000000 → ∃ h' r, HandP h' ∧ 0 ≤ r ∧ r < m ∧ F h [.int m] = some (h', .sh (.int r))
theorem draw_ok : DrawOk f__law_draw := ⟨fun h H m hm => ok_draw H hm⟩
theorem any_run {F : Fi} (hF : DrawOk F) {h : List D} (H : HandP h) {ds : List D} (h0 : ds ≠ []) (hl : ds.length ≤ 1000000) : ∃ h' d, HandP h' ∧ d ∈ ds ∧ runI 2 2 (retF (binF ixD (varF 1) (ioF 0 F (consA (clF lenD (consA (varF 1) nilA)) nilA)))) h [.lst ds] = some (h', .sh d) := by
  have h1 : 0 < ds.length := List.length_pos_iff.mpr h0
  obtain ⟨h', r, H', r0, r1, hd⟩ := hF.go h H ds.length (by omega)
  obtain ⟨j, rfl⟩ := Int.eq_ofNat_of_zero_le r0
  have hj : j < ds.length := by omega
  have ix : ixD (.lst ds) (.int (j : Int)) = some (.sh ds[j]) := by
    have := L2.atI_nat (xs := ds) (j := j) (v := ds[j]) (by simp [hj])
    simp only [ixD, this, Option.map_some]
  refine ⟨h', ds[j], H', List.getElem_mem hj, ?_⟩
  simp only [runF, ini, fin, retF, exprF, setF, nxF, seqF, ifS, bS_nx, bS_rt, bS, bES, bES_ok, andF, orF, unF, notF, negF, varF, shF, bE, bE_ok, bEt, bT, bA, bA_ok, peek, peeks, store, stores, put, free, Val.norm, truthD, consA, nilA, tupF_ap, lstF_ap, dispF, clF, caF, chF, chT, binF, cmpT, oBl, cm2, on1, truF, notT, andT, orT, ifF, lstFreeV, lstFree, lstFrees, List.map, List.append, List.replicate, List.length, List.getElem?_cons_zero, List.getElem?_cons_succ, List.cons_append, List.nil_append, List.set_cons_zero, List.set_cons_succ, Option.map, Option.bind, if_true, Nat.reduceAdd, Nat.reduceSub, Nat.zero_add, List.length_cons, List.length_nil, Bool.not_true, Bool.not_false, Bool.true_and, reduceIte, Bool.false_eq_true, if_false, Option.map_some, Option.bind_some, Nat.sub_self, List.replicate_zero, List.replicate_succ, Nat.succ_sub_succ_eq_sub, Nat.sub_zero, runI, iniI, finI, lenL, ioF, isLst, lstAt, lstSet, Option.isSome, hd, ix]
theorem ok_any {h : List D} (H : HandP h) {ds : List D} (h0 : ds ≠ []) (hl : ds.length ≤ 1000000) : ∃ h' d, HandP h' ∧ d ∈ ds ∧ f__law_any h [.lst ds] = some (h', .sh d) := any_run draw_ok H h0 hl
noncomputable def mx_t : FT := (cmpT (cm2 fun i j => decide (j < i)) (clF lenD (consA (varF 2) nilA)) (shF (.int 0)))
noncomputable def mx_b (F : Fi) : FS := (exprF (mtF 3 appM (consA (mtF 2 popM (consA (ioF 0 F (consA (clF lenD (consA (varF 2) nilA)) nilA)) nilA)) nilA)))
theorem mt_call {i : Nat} {op : Mop} {fs : FA} {env e1 e2 : List Ent} {rs : List Val} {ds xs ys : List D} {d : D} (h0 : isLst env i = true) (ha : fs env = some (.ok rs e1)) (hs : stores e1 rs = some (ds, e2)) (hl : lstAt e2 i = some xs) (ho : op xs ds = some (ys, d)) : mtF i op fs env = some (.ok (.sh d) (lstSet e2 i ys)) := by
  unfold mtF
  rw [if_pos h0, ha]
  dsimp only [bA]
  rw [hs]
  dsimp only
  rw [hl]
  dsimp only
  rw [ho]
  rfl
theorem popM_ok {L : List D} {j : Nat} (hj : j < L.length) (hl : L.length ≤ 1000) : popM L [.int (j : Int)] = some (L.eraseIdx j, L[j]) := by
  have gj : L[j]? = some L[j] := by simp [hj]
  have lt : ((0 : Int) ≤ (j : Int) ∧ (j : Int) < 1000000) := by omega
  unfold popM
  dsimp only
  rw [if_pos lt, Int.toNat_natCast, gj]
  rfl
theorem appM_ok {xs : List D} {d : D} (h : xs.length < 1000000) : appM xs [d] = some (xs ++ [d], .non) := by
  unfold appM
  dsimp only
  rw [if_pos h]
theorem app_stmt {i : Nat} {fa : F} {env e1 e2 : List Ent} {r : Val} {xs : List D} {d : D} (h0 : isLst env i = true) (ha : fa env = some (.ok r e1)) (hs : stores e1 [r.norm] = some ([d], e2)) (hl : lstAt e2 i = some xs) (h : xs.length < 1000000) : exprF (mtF i appM (consA fa nilA)) env = some (.nx (lstSet e2 i (xs ++ [d]))) := by
  unfold exprF
  rw [mt_call h0 (consA_ok ha rfl) hs hl (appM_ok h)]
  rfl
theorem mx_step {F : Fi} {h h' : List D} {ds L found : List D} {j : Nat} (hj : j < L.length) (hlt : L.length ≤ 1000) (lf : found.length < 1000000) (hd : F h [.int (L.length : Nat)] = some (h', .sh (.int (j : Int)))) : mx_b F [.io (.lst h), .sh (.lst ds), .own (.lst L), .own (.lst found)] = some (.nx [.io (.lst h'), .sh (.lst ds), .own (.lst (L.eraseIdx j)), .own (.lst (found ++ [L[j]]))]) := by
  have a1 : ioF 0 F (consA (clF lenD (consA (varF 2) nilA)) nilA) [.io (.lst h), .sh (.lst ds), .own (.lst L), .own (.lst found)] = some (.ok (.sh (.int (j : Int))) [.io (.lst h'), .sh (.lst ds), .own (.lst L), .own (.lst found)]) := by
    simp only [runF, ini, fin, retF, exprF, setF, nxF, seqF, ifS, bS_nx, bS_rt, bS, bES, bES_ok, andF, orF, unF, notF, negF, varF, shF, bE, bE_ok, bEt, bT, bA, bA_ok, peek, peeks, store, stores, put, free, Val.norm, truthD, consA, nilA, tupF_ap, lstF_ap, dispF, clF, caF, chF, chT, binF, cmpT, oBl, cm2, on1, truF, notT, andT, orT, ifF, lstFreeV, lstFree, lstFrees, List.map, List.append, List.replicate, List.length, List.getElem?_cons_zero, List.getElem?_cons_succ, List.cons_append, List.nil_append, List.set_cons_zero, List.set_cons_succ, Option.map, Option.bind, if_true, Nat.reduceAdd, Nat.reduceSub, Nat.zero_add, List.length_cons, List.length_nil, Bool.not_true, Bool.not_false, Bool.true_and, reduceIte, Bool.false_eq_true, if_false, Option.map_some, Option.bind_some, Nat.sub_self, List.replicate_zero, List.replicate_succ, Nat.succ_sub_succ_eq_sub, Nat.sub_zero, lenL, ioF, isLst, lstAt, lstSet, Option.isSome, hd]
  have a2 : mtF 2 popM (consA (ioF 0 F (consA (clF lenD (consA (varF 2) nilA)) nilA)) nilA) [.io (.lst h), .sh (.lst ds), .own (.lst L), .own (.lst found)] = some (.ok (.sh L[j]) [.io (.lst h'), .sh (.lst ds), .own (.lst (L.eraseIdx j)), .own (.lst found)]) := by
    exact mt_call (rs := [.sh (.int (j : Int))]) (e1 := [.io (.lst h'), .sh (.lst ds), .own (.lst L), .own (.lst found)]) (e2 := [.io (.lst h'), .sh (.lst ds), .own (.lst L), .own (.lst found)]) rfl (consA_ok a1 rfl) rfl rfl (popM_ok hj hlt)
  have a3 : mtF 3 appM (consA (mtF 2 popM (consA (ioF 0 F (consA (clF lenD (consA (varF 2) nilA)) nilA)) nilA)) nilA) [.io (.lst h), .sh (.lst ds), .own (.lst L), .own (.lst found)] = some (.ok (.sh .non) [.io (.lst h'), .sh (.lst ds), .own (.lst (L.eraseIdx j)), .own (.lst (found ++ [L[j]]))]) := by
    exact mt_call (rs := [.sh L[j]]) (e1 := [.io (.lst h'), .sh (.lst ds), .own (.lst (L.eraseIdx j)), .own (.lst found)]) (e2 := [.io (.lst h'), .sh (.lst ds), .own (.lst (L.eraseIdx j)), .own (.lst found)]) rfl (consA_ok a2 rfl) rfl rfl (appM_ok lf)
  unfold mx_b exprF
  rw [a3]
  rfl
theorem mixed_run {F : Fi} (hF : DrawOk F) {h : List D} (H : HandP h) {ds : List D} (hl : ds.length ≤ 1000) : ∃ h' es, HandP h' ∧ es.Perm ds ∧ runI 2 4 (seqF (parF 2 3 (clF listD (consA (varF 1) nilA)) (lstF nilA))
    (seqF (whileF (cmpT (cm2 fun i j => decide (j < i)) (clF lenD (consA (varF 2) nilA)) (shF (.int 0))) (exprF (mtF 3 appM (consA (mtF 2 popM (consA (ioF 0 F (consA (clF lenD (consA (varF 2) nilA)) nilA)) nilA)) nilA))))
    (retF (varF 3)))) h [.lst ds] = some (h', .fr (.lst es)) := by
  obtain ⟨e', h1, h', es, h2, h3, h4⟩ := while_run (t := mx_t) (b := mx_b F) (S := fun e => ∃ h' es, e = [.io (.lst h'), .sh (.lst ds), .own (.lst []), .own (.lst es)] ∧ HandP h' ∧ es.Perm ds) (fun n e => ∃ h left found, e = [.io (.lst h), .sh (.lst ds), .own (.lst left), .own (.lst found)] ∧ HandP h ∧ left.length = n ∧ (found ++ left).Perm ds) (fun n e hr => by
    obtain ⟨h, left, found, rfl, H, hn, p⟩ := hr
    have pl := p.length_eq
    rw [List.length_append] at pl
    cases left with
    | nil =>
      left
      refine ⟨_, ?_, h, found, rfl, H, by simpa using p⟩
      have t : decide ((0 : Int) < (([] : List D).length : Nat)) = false := rfl
      unfold mx_t
      simp only [runF, ini, fin, retF, exprF, setF, nxF, seqF, ifS, bS_nx, bS_rt, bS, bES, bES_ok, andF, orF, unF, notF, negF, varF, shF, bE, bE_ok, bEt, bT, bA, bA_ok, peek, peeks, store, stores, put, free, Val.norm, truthD, consA, nilA, tupF_ap, lstF_ap, dispF, clF, caF, chF, chT, binF, cmpT, oBl, cm2, on1, truF, notT, andT, orT, ifF, lstFreeV, lstFree, lstFrees, List.map, List.append, List.replicate, List.length, List.getElem?_cons_zero, List.getElem?_cons_succ, List.cons_append, List.nil_append, List.set_cons_zero, List.set_cons_succ, Option.map, Option.bind, if_true, Nat.reduceAdd, Nat.reduceSub, Nat.zero_add, List.length_cons, List.length_nil, Bool.not_true, Bool.not_false, Bool.true_and, reduceIte, Bool.false_eq_true, if_false, Option.map_some, Option.bind_some, Nat.sub_self, List.replicate_zero, List.replicate_succ, Nat.succ_sub_succ_eq_sub, Nat.sub_zero, lenL]
      rfl
    | cons a left =>
      right
      have hm : 1 ≤ (((a :: left).length : Nat) : Int) ∧ (((a :: left).length : Nat) : Int) ≤ 1000000 := by simp at pl ⊢; omega
      obtain ⟨h', r, H', r0, r1, hd⟩ := hF.go h H _ hm
      obtain ⟨j, rfl⟩ := Int.eq_ofNat_of_zero_le r0
      generalize hL : a :: left = L at *
      have hj : j < L.length := by omega
      have t1 : decide ((0 : Int) < ((L.length : Nat) : Int)) = true := decide_eq_true (by omega)
      have lt : ((0 : Int) ≤ (j : Int) ∧ (j : Int) < 1000000) := by omega
      have lf : found.length < 1000000 := by omega
      refine ⟨[.io (.lst h), .sh (.lst ds), .own (.lst L), .own (.lst found)], [.io (.lst h'), .sh (.lst ds), .own (.lst (L.eraseIdx j)), .own (.lst (found ++ [L[j]]))], n - 1, ?_, ?_, by omega, h', L.eraseIdx j, found ++ [L[j]], rfl, H', by rw [List.length_eraseIdx_of_lt hj]; omega, ?_⟩
      · unfold mx_t
        simp only [runF, ini, fin, retF, exprF, setF, nxF, seqF, ifS, bS_nx, bS_rt, bS, bES, bES_ok, andF, orF, unF, notF, negF, varF, shF, bE, bE_ok, bEt, bT, bA, bA_ok, peek, peeks, store, stores, put, free, Val.norm, truthD, consA, nilA, tupF_ap, lstF_ap, dispF, clF, caF, chF, chT, binF, cmpT, oBl, cm2, on1, truF, notT, andT, orT, ifF, lstFreeV, lstFree, lstFrees, List.map, List.append, List.replicate, List.length, List.getElem?_cons_zero, List.getElem?_cons_succ, List.cons_append, List.nil_append, List.set_cons_zero, List.set_cons_succ, Option.map, Option.bind, if_true, Nat.reduceAdd, Nat.reduceSub, Nat.zero_add, List.length_cons, List.length_nil, Bool.not_true, Bool.not_false, Bool.true_and, reduceIte, Bool.false_eq_true, if_false, Option.map_some, Option.bind_some, Nat.sub_self, List.replicate_zero, List.replicate_succ, Nat.succ_sub_succ_eq_sub, Nat.sub_zero, lenL, t1]
      · exact mx_step hj (by omega) lf hd
      · refine List.Perm.trans ?_ p
        rw [List.append_assoc]
        exact List.Perm.append_left _ (perm_erase hj))
    (n := ds.length) (e := [.io (.lst h), .sh (.lst ds), .own (.lst ds), .own (.lst [])]) ⟨h, ds, [], rfl, H, rfl, by simp⟩
  subst h2
  refine ⟨h', es, h3, h4, ?_⟩
  have lD : listD [.lst ds] = some (.fr (.lst ds)) := rfl
  have p1 : parF 2 3 (clF listD (consA (varF 1) nilA)) (lstF nilA) (iniI 4 h [.lst ds]) = some (.nx [.io (.lst h), .sh (.lst ds), .own (.lst ds), .own (.lst [])]) := by
    simp only [runF, ini, fin, retF, exprF, setF, nxF, seqF, ifS, bS_nx, bS_rt, bS, bES, bES_ok, andF, orF, unF, notF, negF, varF, shF, bE, bE_ok, bEt, bT, bA, bA_ok, peek, peeks, store, stores, put, free, Val.norm, truthD, consA, nilA, tupF_ap, lstF_ap, dispF, clF, caF, chF, chT, binF, cmpT, oBl, cm2, on1, truF, notT, andT, orT, ifF, lstFreeV, lstFree, lstFrees, List.map, List.append, List.replicate, List.length, List.getElem?_cons_zero, List.getElem?_cons_succ, List.cons_append, List.nil_append, List.set_cons_zero, List.set_cons_succ, Option.map, Option.bind, if_true, Nat.reduceAdd, Nat.reduceSub, Nat.zero_add, List.length_cons, List.length_nil, Bool.not_true, Bool.not_false, Bool.true_and, reduceIte, Bool.false_eq_true, if_false, Option.map_some, Option.bind_some, Nat.sub_self, List.replicate_zero, List.replicate_succ, Nat.succ_sub_succ_eq_sub, Nat.sub_zero, iniI, parF, par2, lD]
  unfold runI
  rw [if_pos (by simp)]
  unfold seqF
  rw [p1, bS_nx]
  unfold mx_t mx_b at h1
  rw [h1, bS_nx]
  rfl
theorem ok_mixed {h : List D} (H : HandP h) {ds : List D} (hl : ds.length ≤ 1000) : ∃ h' es, HandP h' ∧ es.Perm ds ∧ f__law_mixed h [.lst ds] = some (h', .fr (.lst es)) := mixed_run draw_ok H hl
end K94
namespace K94
open PySem PySem.Spec L2 Ev Ma
theorem perm_of_map {α β : Type} {f : α → β} {a b : List β} (h : a.Perm b) : ∀ l : List α, b = l.map f → ∃ m : List α, a = m.map f ∧ m.Perm l := by
  induction h with
  | nil => intro l hl; exact ⟨[], rfl, by cases l with | nil => exact .refl _ | cons _ _ => simp at hl⟩
  | cons x _ ih =>
    intro l hl
    cases l with
    | nil => simp at hl
    | cons y l =>
      simp only [List.map_cons, List.cons.injEq] at hl
      obtain ⟨m, h1, h2⟩ := ih l hl.2
      exact ⟨y :: m, by rw [List.map_cons, ← h1, hl.1], h2.cons y⟩
  | swap x y t =>
    intro l hl
    match l, hl with
    | u :: v :: l, hl =>
      simp only [List.map_cons, List.cons.injEq] at hl
      exact ⟨v :: u :: l, by simp [hl.1, hl.2.1, hl.2.2], .swap _ _ _⟩
    | [_], hl => simp at hl
    | [], hl => simp at hl
  | trans _ _ h1 h2 =>
    intro l hl
    obtain ⟨m, e1, p1⟩ := h2 l hl
    obtain ⟨k, e2, p2⟩ := h1 m e1
    exact ⟨k, e2, p2.trans p1⟩
theorem rangeD_rng (n : Nat) : rangeD 0 n = (rngI n).map D.int := by rw [rangeD_map]; simp [rngI]
theorem ok_mixed_map {α : Type} {f : α → D} {h : List D} (H : HandP h) {l : List α} (hl : l.length ≤ 1000) : ∃ (h' : List D) (m : List α), HandP h' ∧ m.Perm l ∧ f__law_mixed h [.lst (l.map f)] = some (h', .fr (.lst (m.map f))) := by
  obtain ⟨h', es, H', p, e⟩ := ok_mixed H (ds := l.map f) (by simpa using hl)
  obtain ⟨m, rfl, p2⟩ := perm_of_map p l rfl
  exact ⟨h', m, H', p2, e⟩
theorem ix_ints {o : List Int} {i : Int} (h : 0 ≤ i ∧ i < o.length) : ixD (.lst (o.map D.int)) (.int i) = some (.sh (.int (pl o i))) := by
  have hk : i.toNat < o.length := by omega
  rw [ix_lst h.1 (a := o[i.toNat]) (by simp [hk])]
  simp [pl, hk]
theorem webP_add {n : Int} {l : List Pr} (h : WebP n l) (hl : l.length ≤ 13) {q : Pr} (hi : 0 ≤ q.1 ∧ q.1 < n ∧ 0 ≤ q.2 ∧ q.2 < n ∧ q.1 ≠ q.2) (ha : Acyc (l ++ [q])) : WebP n (l ++ [q]) :=
  ⟨h.n1, h.n2, by simp; omega, fun x hx => by
    rcases List.mem_append.mp hx with hx | hx
    · exact h.inr x hx
    · rw [List.mem_singleton.mp hx]; exact hi, ha⟩
/-- a new place at one end -/
theorem acyc_new {l : List Pr} (ha : Acyc l) {a b : Int} (hn : ∀ q ∈ l, q.1 ≠ a ∧ q.2 ≠ a) (hab : a ≠ b) : Acyc (l ++ [(a, b)]) ∧ Acyc (l ++ [(b, a)]) := by
  obtain ⟨r, hr⟩ := ha
  constructor
  · refine ⟨fun x => if x = a then r b - 1 else r x, fun q hq => ?_⟩
    rcases List.mem_append.mp hq with hq | hq
    · have := hn q hq
      simp only [this.1, this.2, if_false]
      exact hr q hq
    · rw [List.mem_singleton.mp hq]
      simp only [if_true, if_neg (Ne.symm hab)]
      omega
  · refine ⟨fun x => if x = a then r b + 1 else r x, fun q hq => ?_⟩
    rcases List.mem_append.mp hq with hq | hq
    · have := hn q hq
      simp only [this.1, this.2, if_false]
      exact hr q hq
    · rw [List.mem_singleton.mp hq]
      simp only [if_true, if_neg (Ne.symm hab)]
      omega
noncomputable def ar_g : FG := (gnF 5)
noncomputable def ar_b (F : Fi) : FS := (seqF (setF 7 (tupF (consA (binF ixD (varF 2) (varF 5)) (consA (binF ixD (varF 2) (ioF 0 F (consA (varF 5) nilA))) nilA))))
    (exprF (mtF 3 appM (consA (ifF (cmpT eqD (ioF 0 F (consA (shF (.int 2)) nilA)) (shF (.int 0))) (varF 7) (unF revD (varF 7))) nilA))))
theorem eA_rev (q : Pr) : revD (eA q) = some (.sh (eA (q.2, q.1))) := rfl
def ArI (n : Nat) (o : List Int) (i : Nat) (e : List Ent) : Prop := ∃ (h' : List D) (l : List Pr) (e5 e7 : Ent), e = [.io (.lst h'), .sh (.int n), .own (.lst (o.map D.int)), .own (.lst (l.map eA)), .no, e5, .no, e7] ∧ opn (some e5) ∧ opn (some e7) ∧ HandP h' ∧ WebP n l ∧ l.length = i ∧ ∀ q ∈ l, (∃ j : Nat, j < i + 1 ∧ q.1 = pl o j) ∧ (∃ j : Nat, j < i + 1 ∧ q.2 = pl o j)
theorem ar_tree {F : Fi} (hF : DrawOk F) {n : Nat} (hn : 1 ≤ n ∧ n ≤ 4) {o : List Int} (op : OrdP n o) {h : List D} (H : HandP h) : ∃ e', (∃ (h' : List D) (l : List Pr) (e4 e5 e6 e7 : Ent), e' = [.io (.lst h'), .sh (.int n), .own (.lst (o.map D.int)), .own (.lst (l.map eA)), e4, e5, e6, e7] ∧ HandP h' ∧ WebP n l ∧ l.length ≤ 5) ∧
    forL ar_g (ar_b F) (rangeD 1 n) [.io (.lst h), .sh (.int n), .own (.lst (o.map D.int)), .own (.lst []), .no, .no, .no, .no] = some (.nx e') := by
  have ol : (o.length : Int) = n := op.1
  have step : ∀ (j : Nat) (d : D), (rangeD 1 n)[j]? = some d → ∀ e, ArI n o (0 + j) e → ∃ e1 e2, ar_g d e = some e1 ∧ ar_b F e1 = some (.nx e2) ∧ ArI n o (0 + j + 1) e2 := fun j d hd e he => by
    rw [Nat.zero_add] at he ⊢
    obtain ⟨h', l, e5, e7, rfl, o5, o7, H', w, hl, hq⟩ := he
    have hjd : d = .int (1 + (j : Int)) ∧ j + 1 < n := by
      unfold rangeD at hd
      rw [List.getElem?_map] at hd
      cases k : (List.range ((n : Int) - 1).toNat)[j]? with
      | none => rw [k] at hd; cases hd
      | some x =>
        rw [k] at hd
        cases hd
        obtain ⟨k1, k2⟩ := List.getElem?_eq_some_iff.mp k
        simp at k1 k2
        subst k2
        exact ⟨rfl, by omega⟩
    obtain ⟨rfl, hj⟩ := hjd
    obtain ⟨h2, r, H2, r0, r1, hd1⟩ := hF.go h' H' (1 + (j : Int)) (by omega)
    obtain ⟨h3, s, H3, s0, s1, hd2⟩ := hF.go h2 H2 2 (by omega)
    have i1 := ix_ints (o := o) (i := 1 + (j : Int)) (by omega)
    have i2 := ix_ints (o := o) (i := r) (by omega)
    have p1 := pl_in op (i := 1 + (j : Int)) (by omega)
    have p2 := pl_in op (i := r) (by omega)
    have ne : pl o (1 + (j : Int)) ≠ pl o r := fun e => by
      have := pl_inj op (i := 1 + (j : Int)) (j := r) (by omega) (by omega) e
      omega
    have nw : ∀ q ∈ l, q.1 ≠ pl o (1 + (j : Int)) ∧ q.2 ≠ pl o (1 + (j : Int)) := fun q hqm => by
      obtain ⟨⟨a, a1, a2⟩, ⟨b, b1, b2⟩⟩ := hq q hqm
      rw [a2, b2]
      exact ⟨fun e => by have := pl_inj op (i := (a : Int)) (j := 1 + (j : Int)) (by omega) (by omega) e; omega, fun e => by have := pl_inj op (i := (b : Int)) (j := 1 + (j : Int)) (by omega) (by omega) e; omega⟩
    obtain ⟨y1, y2⟩ := acyc_new w.acy nw ne
    have fin : ∀ q : Pr, (q = (pl o (1 + (j : Int)), pl o r) ∨ q = (pl o r, pl o (1 + (j : Int)))) → WebP n (l ++ [q]) ∧ ∀ x ∈ l ++ [q], (∃ k : Nat, k < j + 1 + 1 ∧ x.1 = pl o k) ∧ (∃ k : Nat, k < j + 1 + 1 ∧ x.2 = pl o k) := fun q hqe => by
      have rr : ((r.toNat : Nat) : Int) = r := by omega
      have jj : (((1 + j : Nat)) : Int) = 1 + (j : Int) := by omega
      refine ⟨?_, fun x hx => ?_⟩
      · rcases hqe with rfl | rfl
        · exact webP_add w (by omega) ⟨p1.1, p1.2, p2.1, p2.2, ne⟩ y1
        · exact webP_add w (by omega) ⟨p2.1, p2.2, p1.1, p1.2, Ne.symm ne⟩ y2
      · rcases List.mem_append.mp hx with hx | hx
        · obtain ⟨⟨a, a1, a2⟩, ⟨b, b1, b2⟩⟩ := hq x hx
          exact ⟨⟨a, by omega, a2⟩, ⟨b, by omega, b2⟩⟩
        · rw [List.mem_singleton.mp hx]
          rcases hqe with rfl | rfl
          · exact ⟨⟨1 + j, by omega, by rw [jj]⟩, ⟨r.toNat, by omega, by rw [rr]⟩⟩
          · exact ⟨⟨r.toNat, by omega, by rw [rr]⟩, ⟨1 + j, by omega, by rw [jj]⟩⟩
    have g1 : ar_g (.int (1 + (j : Int))) [.io (.lst h'), .sh (.int n), .own (.lst (o.map D.int)), .own (.lst (l.map eA)), .no, e5, .no, e7] = some [.io (.lst h'), .sh (.int n), .own (.lst (o.map D.int)), .own (.lst (l.map eA)), .no, .sh (.int (1 + (j : Int))), .no, e7] := by
      have f5 : free [.io (.lst h'), .sh (.int n), .own (.lst (o.map D.int)), .own (.lst (l.map eA)), .no, e5, .no, e7] 5 = true := opn_free (i := 5) o5
      unfold ar_g gnF put
      dsimp only
      rw [if_pos f5]
      rfl
    have lf : (l.map eA).length < 1000000 := by rw [List.length_map]; omega
    have ap1 : ∀ q : Pr, l.map eA ++ [eA q] = (l ++ [q]).map eA := fun q => by simp
    have f7 : free [.io (.lst h2), .sh (.int n), .own (.lst (o.map D.int)), .own (.lst (l.map eA)), .no, .sh (.int (1 + (j : Int))), .no, e7] 7 = true := opn_free (i := 7) o7
    have b1 : setF 7 (tupF (consA (binF ixD (varF 2) (varF 5)) (consA (binF ixD (varF 2) (ioF 0 F (consA (varF 5) nilA))) nilA))) [.io (.lst h'), .sh (.int n), .own (.lst (o.map D.int)), .own (.lst (l.map eA)), .no, .sh (.int (1 + (j : Int))), .no, e7] = some (.nx [.io (.lst h2), .sh (.int n), .own (.lst (o.map D.int)), .own (.lst (l.map eA)), .no, .sh (.int (1 + (j : Int))), .no, .sh (eA (pl o (1 + (j : Int)), pl o r))]) := by
      have key : tupF (consA (binF ixD (varF 2) (varF 5)) (consA (binF ixD (varF 2) (ioF 0 F (consA (varF 5) nilA))) nilA)) [.io (.lst h'), .sh (.int n), .own (.lst (o.map D.int)), .own (.lst (l.map eA)), .no, .sh (.int (1 + (j : Int))), .no, e7] = some (.ok (.sh (eA (pl o (1 + (j : Int)), pl o r))) [.io (.lst h2), .sh (.int n), .own (.lst (o.map D.int)), .own (.lst (l.map eA)), .no, .sh (.int (1 + (j : Int))), .no, e7]) := by
        simp only [runF, ini, fin, retF, exprF, setF, nxF, seqF, ifS, bS_nx, bS_rt, bS, bES, bES_ok, andF, orF, unF, notF, negF, varF, shF, bE, bE_ok, bEt, bT, bA, bA_ok, peek, peeks, store, stores, put, free, Val.norm, truthD, consA, nilA, tupF_ap, lstF_ap, dispF, clF, caF, chF, chT, binF, cmpT, oBl, cm2, on1, truF, notT, andT, orT, ifF, lstFreeV, lstFree, lstFrees, List.map, List.append, List.replicate, List.length, List.getElem?_cons_zero, List.getElem?_cons_succ, List.cons_append, List.nil_append, List.set_cons_zero, List.set_cons_succ, Option.map, Option.bind, if_true, Nat.reduceAdd, Nat.reduceSub, Nat.zero_add, List.length_cons, List.length_nil, Bool.not_true, Bool.not_false, Bool.true_and, reduceIte, Bool.false_eq_true, if_false, Option.map_some, Option.bind_some, Nat.sub_self, List.replicate_zero, List.replicate_succ, Nat.succ_sub_succ_eq_sub, Nat.sub_zero, ioF, isLst, lstAt, lstSet, Option.isSome, i1, i2, hd1, eA]
      unfold setF
      rw [key]
      simp only [bES_ok]
      unfold put
      dsimp only
      rw [if_pos f7]
      rfl
    rcases Int.decEq s 0 with hs | hs
    · have t1 : eqD (.int s) (.int 0) = some false := by rw [eqD_int, decide_eq_false hs]
      have b2 : ar_b F [.io (.lst h'), .sh (.int n), .own (.lst (o.map D.int)), .own (.lst (l.map eA)), .no, .sh (.int (1 + (j : Int))), .no, e7] = some (.nx [.io (.lst h3), .sh (.int n), .own (.lst (o.map D.int)), .own (.lst ((l ++ [(pl o r, pl o (1 + (j : Int)))]).map eA)), .no, .sh (.int (1 + (j : Int))), .no, .sh (eA (pl o (1 + (j : Int)), pl o r))]) := by
        unfold ar_b seqF
        rw [b1, bS_nx]
        have k : ifF (cmpT eqD (ioF 0 F (consA (shF (.int 2)) nilA)) (shF (.int 0))) (varF 7) (unF revD (varF 7)) [.io (.lst h2), .sh (.int n), .own (.lst (o.map D.int)), .own (.lst (l.map eA)), .no, .sh (.int (1 + (j : Int))), .no, .sh (eA (pl o (1 + (j : Int)), pl o r))] = some (.ok (.sh (eA (pl o r, pl o (1 + (j : Int))))) [.io (.lst h3), .sh (.int n), .own (.lst (o.map D.int)), .own (.lst (l.map eA)), .no, .sh (.int (1 + (j : Int))), .no, .sh (eA (pl o (1 + (j : Int)), pl o r))]) := by
          simp only [runF, ini, fin, retF, exprF, setF, nxF, seqF, ifS, bS_nx, bS_rt, bS, bES, bES_ok, andF, orF, unF, notF, negF, varF, shF, bE, bE_ok, bEt, bT, bA, bA_ok, peek, peeks, store, stores, put, free, Val.norm, truthD, consA, nilA, tupF_ap, lstF_ap, dispF, clF, caF, chF, chT, binF, cmpT, oBl, cm2, on1, truF, notT, andT, orT, ifF, lstFreeV, lstFree, lstFrees, List.map, List.append, List.replicate, List.length, List.getElem?_cons_zero, List.getElem?_cons_succ, List.cons_append, List.nil_append, List.set_cons_zero, List.set_cons_succ, Option.map, Option.bind, if_true, Nat.reduceAdd, Nat.reduceSub, Nat.zero_add, List.length_cons, List.length_nil, Bool.not_true, Bool.not_false, Bool.true_and, reduceIte, Bool.false_eq_true, if_false, Option.map_some, Option.bind_some, Nat.sub_self, List.replicate_zero, List.replicate_succ, Nat.succ_sub_succ_eq_sub, Nat.sub_zero, ioF, isLst, lstAt, lstSet, Option.isSome, hd2, t1, eA_rev]
        rw [app_stmt rfl k rfl rfl lf, ap1]
        rfl
      obtain ⟨w2, q2⟩ := fin _ (.inr rfl)
      exact ⟨_, _, g1, b2, h3, _, _, _, rfl, .inr ⟨_, rfl⟩, .inr ⟨_, rfl⟩, H3, w2, by simp [hl], q2⟩
    · have t1 : eqD (.int s) (.int 0) = some true := by rw [eqD_int, decide_eq_true hs]
      have b2 : ar_b F [.io (.lst h'), .sh (.int n), .own (.lst (o.map D.int)), .own (.lst (l.map eA)), .no, .sh (.int (1 + (j : Int))), .no, e7] = some (.nx [.io (.lst h3), .sh (.int n), .own (.lst (o.map D.int)), .own (.lst ((l ++ [(pl o (1 + (j : Int)), pl o r)]).map eA)), .no, .sh (.int (1 + (j : Int))), .no, .sh (eA (pl o (1 + (j : Int)), pl o r))]) := by
        unfold ar_b seqF
        rw [b1, bS_nx]
        have k : ifF (cmpT eqD (ioF 0 F (consA (shF (.int 2)) nilA)) (shF (.int 0))) (varF 7) (unF revD (varF 7)) [.io (.lst h2), .sh (.int n), .own (.lst (o.map D.int)), .own (.lst (l.map eA)), .no, .sh (.int (1 + (j : Int))), .no, .sh (eA (pl o (1 + (j : Int)), pl o r))] = some (.ok (.sh (eA (pl o (1 + (j : Int)), pl o r))) [.io (.lst h3), .sh (.int n), .own (.lst (o.map D.int)), .own (.lst (l.map eA)), .no, .sh (.int (1 + (j : Int))), .no, .sh (eA (pl o (1 + (j : Int)), pl o r))]) := by
          simp only [runF, ini, fin, retF, exprF, setF, nxF, seqF, ifS, bS_nx, bS_rt, bS, bES, bES_ok, andF, orF, unF, notF, negF, varF, shF, bE, bE_ok, bEt, bT, bA, bA_ok, peek, peeks, store, stores, put, free, Val.norm, truthD, consA, nilA, tupF_ap, lstF_ap, dispF, clF, caF, chF, chT, binF, cmpT, oBl, cm2, on1, truF, notT, andT, orT, ifF, lstFreeV, lstFree, lstFrees, List.map, List.append, List.replicate, List.length, List.getElem?_cons_zero, List.getElem?_cons_succ, List.cons_append, List.nil_append, List.set_cons_zero, List.set_cons_succ, Option.map, Option.bind, if_true, Nat.reduceAdd, Nat.reduceSub, Nat.zero_add, List.length_cons, List.length_nil, Bool.not_true, Bool.not_false, Bool.true_and, reduceIte, Bool.false_eq_true, if_false, Option.map_some, Option.bind_some, Nat.sub_self, List.replicate_zero, List.replicate_succ, Nat.succ_sub_succ_eq_sub, Nat.sub_zero, ioF, isLst, lstAt, lstSet, Option.isSome, hd2, t1]
        rw [app_stmt rfl k rfl rfl lf, ap1]
        rfl
      obtain ⟨w2, q2⟩ := fin _ (.inl rfl)
      exact ⟨_, _, g1, b2, h3, _, _, _, rfl, .inr ⟨_, rfl⟩, .inr ⟨_, rfl⟩, H3, w2, by simp [hl], q2⟩
  obtain ⟨e2, h1, h2⟩ := for_run (g := ar_g) (b := ar_b F) (ArI n o) (rangeD 1 n) 0 [.io (.lst h), .sh (.int n), .own (.lst (o.map D.int)), .own (.lst []), .no, .no, .no, .no] step ⟨h, [], .no, .no, rfl, .inl rfl, .inl rfl, H, ⟨by omega, by omega, by simp, fun q hq => by simp at hq, ⟨fun _ => 0, fun q hq => by simp at hq⟩⟩, rfl, fun q hq => by simp at hq⟩
  obtain ⟨h', l, e5, e7, rfl, o5, o7, H', w, hl, _⟩ := h2
  have : l.length ≤ 5 := by rw [hl]; simp [rangeD]; omega
  exact ⟨_, ⟨h', l, _, _, _, _, rfl, H', w, this⟩, h1⟩
end K94
namespace K94
open PySem PySem.Spec L2 Ev Ma
structure AnyOk (A : Fi) : Prop where
  go : ∀ h, HandP h → ∀ ds : List D, ds ≠ [] → ds.length ≤ 1000000 → ∃ h' d, HandP h' ∧ d ∈ ds ∧ A h [.lst ds] = some (h', .sh d)
structure MixOk (M : Fi) : Prop where
  go : ∀ h, HandP h → ∀ ds : List D, ds.length ≤ 1000 → ∃ h' es, HandP h' ∧ es.Perm ds ∧ M h [.lst ds] = some (h', .fr (.lst es))
theorem any_ok : AnyOk f__law_any := ⟨fun h H ds h0 hl => ok_any H h0 hl⟩
theorem mix_ok : MixOk f__law_mixed := ⟨fun h H ds hl => ok_mixed H hl⟩
theorem MixOk.ints {M : Fi} (hM : MixOk M) {α : Type} {f : α → D} {h : List D} (H : HandP h) (l : List α) (hl : l.length ≤ 1000) : ∃ (h' : List D) (m : List α), HandP h' ∧ m.Perm l ∧ M h [.lst (l.map f)] = some (h', .fr (.lst (m.map f))) := by
  obtain ⟨h', es, H', p, e⟩ := hM.go h H (l.map f) (by simpa using hl)
  obtain ⟨m, rfl, p2⟩ := perm_of_map p l rfl
  exact ⟨h', m, H', p2, e⟩
theorem web_up {n : Nat} (hn : 1 ≤ n ∧ n ≤ 4) {o : List Int} (op : OrdP n o) {l : List Pr} (hl : l.length ≤ 14) (h : ∀ q ∈ l, ∃ i j : Int, 0 ≤ i ∧ i < j ∧ j < n ∧ q = (pl o i, pl o j)) : WebP n l := by
  refine ⟨by omega, by omega, hl, fun q hq => ?_, fun x => (o.idxOf x : Nat), fun q hq => ?_⟩
  · obtain ⟨i, j, h1, h2, h3, rfl⟩ := h q hq
    have p1 := pl_in op (i := i) (by omega)
    have p2 := pl_in op (i := j) (by omega)
    exact ⟨p1.1, p1.2, p2.1, p2.2, fun e => by have := pl_inj op (i := i) (j := j) (by omega) (by omega) e; omega⟩
  · obtain ⟨i, j, h1, h2, h3, rfl⟩ := h q hq
    show ((o.idxOf (pl o i) : Nat) : Int) < ((o.idxOf (pl o j) : Nat) : Int)
    rw [inv_pl op (by omega), inv_pl op (by omega)]
    exact h2
noncomputable def as_b (F : Fi) : FS := (seqF (setF 6 (ioF 0 F (consA (binF subD (varF 1) (shF (.int 1))) nilA)))
    (exprF (mtF 3 appM (consA (tupF (consA (binF ixD (varF 2) (varF 6)) (consA (binF ixD (varF 2) (binF addD (binF addD (varF 6) (shF (.int 1))) (ioF 0 F (consA (binF subD (binF subD (varF 1) (shF (.int 1))) (varF 6)) nilA)))) nilA))) nilA))))
def AsI (n : Nat) (o : List Int) (i : Nat) (e : List Ent) : Prop := ∃ (h' : List D) (l : List Pr) (e4 e6 : Ent), e = [.io (.lst h'), .sh (.int n), .own (.lst (o.map D.int)), .own (.lst (l.map eA)), e4, .no, e6, .no] ∧ opn (some e4) ∧ opn (some e6) ∧ HandP h' ∧ l.length = i ∧ ∀ q ∈ l, ∃ i j : Int, 0 ≤ i ∧ i < j ∧ j < n ∧ q = (pl o i, pl o j)
theorem as_loop {F : Fi} (hF : DrawOk F) {n : Nat} (hn : 2 ≤ n ∧ n ≤ 4) {o : List Int} (op : OrdP n o) {ds : List D} (hl : ds.length ≤ 5) {h : List D} (H : HandP h) : ∃ e', (∃ (h' : List D) (l : List Pr) (e4 e5 e6 e7 : Ent), e' = [.io (.lst h'), .sh (.int n), .own (.lst (o.map D.int)), .own (.lst (l.map eA)), e4, e5, e6, e7] ∧ HandP h' ∧ WebP n l ∧ l.length ≤ 5) ∧
    forL (gnF 4) (as_b F) ds [.io (.lst h), .sh (.int n), .own (.lst (o.map D.int)), .own (.lst []), .no, .no, .no, .no] = some (.nx e') := by
  have ol : (o.length : Int) = n := op.1
  have step : ∀ (j : Nat) (d : D), ds[j]? = some d → ∀ e, AsI n o (0 + j) e → ∃ e1 e2, gnF 4 d e = some e1 ∧ as_b F e1 = some (.nx e2) ∧ AsI n o (0 + j + 1) e2 := fun j d hd e he => by
    rw [Nat.zero_add] at he ⊢
    obtain ⟨h', l, e4, e6, rfl, o4, o6, H', hlen, hq⟩ := he
    have hj : j < ds.length := (List.getElem?_eq_some_iff.mp hd).1
    obtain ⟨h2, r, H2, r0, r1, hd1⟩ := hF.go h' H' ((n : Int) - 1) (by omega)
    obtain ⟨h3, s, H3, s0, s1, hd2⟩ := hF.go h2 H2 ((n : Int) - 1 - r) (by omega)
    have i1 := ix_ints (o := o) (i := r) (by omega)
    have i2 := ix_ints (o := o) (i := r + 1 + s) (by omega)
    have lf : (l.map eA).length < 1000000 := by rw [List.length_map]; omega
    have f4 : free [.io (.lst h'), .sh (.int n), .own (.lst (o.map D.int)), .own (.lst (l.map eA)), e4, .no, e6, .no] 4 = true := opn_free (i := 4) o4
    have f6 : free [.io (.lst h2), .sh (.int n), .own (.lst (o.map D.int)), .own (.lst (l.map eA)), .sh d, .no, e6, .no] 6 = true := opn_free (i := 6) o6
    have g1 : gnF 4 d [.io (.lst h'), .sh (.int n), .own (.lst (o.map D.int)), .own (.lst (l.map eA)), e4, .no, e6, .no] = some [.io (.lst h'), .sh (.int n), .own (.lst (o.map D.int)), .own (.lst (l.map eA)), .sh d, .no, e6, .no] := by
      unfold gnF put
      dsimp only
      rw [if_pos f4]
      rfl
    have k1 : ioF 0 F (consA (binF subD (varF 1) (shF (.int 1))) nilA) [.io (.lst h'), .sh (.int n), .own (.lst (o.map D.int)), .own (.lst (l.map eA)), .sh d, .no, e6, .no] = some (.ok (.sh (.int r)) [.io (.lst h2), .sh (.int n), .own (.lst (o.map D.int)), .own (.lst (l.map eA)), .sh d, .no, e6, .no]) := by
      simp only [runF, ini, fin, retF, exprF, setF, nxF, seqF, ifS, bS_nx, bS_rt, bS, bES, bES_ok, andF, orF, unF, notF, negF, varF, shF, bE, bE_ok, bEt, bT, bA, bA_ok, peek, peeks, store, stores, put, free, Val.norm, truthD, consA, nilA, tupF_ap, lstF_ap, dispF, clF, caF, chF, chT, binF, cmpT, oBl, cm2, on1, truF, notT, andT, orT, ifF, lstFreeV, lstFree, lstFrees, List.map, List.append, List.replicate, List.length, List.getElem?_cons_zero, List.getElem?_cons_succ, List.cons_append, List.nil_append, List.set_cons_zero, List.set_cons_succ, Option.map, Option.bind, if_true, Nat.reduceAdd, Nat.reduceSub, Nat.zero_add, List.length_cons, List.length_nil, Bool.not_true, Bool.not_false, Bool.true_and, reduceIte, Bool.false_eq_true, if_false, Option.map_some, Option.bind_some, Nat.sub_self, List.replicate_zero, List.replicate_succ, Nat.succ_sub_succ_eq_sub, Nat.sub_zero, ioF, isLst, lstAt, lstSet, Option.isSome, subI, hd1]
    have k2 : tupF (consA (binF ixD (varF 2) (varF 6)) (consA (binF ixD (varF 2) (binF addD (binF addD (varF 6) (shF (.int 1))) (ioF 0 F (consA (binF subD (binF subD (varF 1) (shF (.int 1))) (varF 6)) nilA)))) nilA)) [.io (.lst h2), .sh (.int n), .own (.lst (o.map D.int)), .own (.lst (l.map eA)), .sh d, .no, .sh (.int r), .no] = some (.ok (.sh (eA (pl o r, pl o (r + 1 + s)))) [.io (.lst h3), .sh (.int n), .own (.lst (o.map D.int)), .own (.lst (l.map eA)), .sh d, .no, .sh (.int r), .no]) := by
      simp only [runF, ini, fin, retF, exprF, setF, nxF, seqF, ifS, bS_nx, bS_rt, bS, bES, bES_ok, andF, orF, unF, notF, negF, varF, shF, bE, bE_ok, bEt, bT, bA, bA_ok, peek, peeks, store, stores, put, free, Val.norm, truthD, consA, nilA, tupF_ap, lstF_ap, dispF, clF, caF, chF, chT, binF, cmpT, oBl, cm2, on1, truF, notT, andT, orT, ifF, lstFreeV, lstFree, lstFrees, List.map, List.append, List.replicate, List.length, List.getElem?_cons_zero, List.getElem?_cons_succ, List.cons_append, List.nil_append, List.set_cons_zero, List.set_cons_succ, Option.map, Option.bind, if_true, Nat.reduceAdd, Nat.reduceSub, Nat.zero_add, List.length_cons, List.length_nil, Bool.not_true, Bool.not_false, Bool.true_and, reduceIte, Bool.false_eq_true, if_false, Option.map_some, Option.bind_some, Nat.sub_self, List.replicate_zero, List.replicate_succ, Nat.succ_sub_succ_eq_sub, Nat.sub_zero, ioF, isLst, lstAt, lstSet, Option.isSome, subI, addI, hd2, i1, i2, eA]
    refine ⟨_, [.io (.lst h3), .sh (.int n), .own (.lst (o.map D.int)), .own (.lst ((l ++ [(pl o r, pl o (r + 1 + s))]).map eA)), .sh d, .no, .sh (.int r), .no], g1, ?_, h3, _, _, _, rfl, .inr ⟨_, rfl⟩, .inr ⟨_, rfl⟩, H3, by simp [hlen], fun q hqm => ?_⟩
    · unfold as_b seqF setF
      rw [k1]
      simp only [bES_ok]
      unfold put
      dsimp only
      rw [if_pos f6]
      show bS (some (.nx [.io (.lst h2), .sh (.int n), .own (.lst (o.map D.int)), .own (.lst (l.map eA)), .sh d, .no, .sh (.int r), .no])) _ = _
      rw [bS_nx, app_stmt rfl k2 rfl rfl lf]
      simp [lstSet]
    · rcases List.mem_append.mp hqm with hqm | hqm
      · exact hq q hqm
      · rw [List.mem_singleton.mp hqm]
        exact ⟨r, r + 1 + s, by omega, by omega, by omega, rfl⟩
  obtain ⟨e2, h1, h2⟩ := for_run (g := gnF 4) (b := as_b F) (AsI n o) ds 0 [.io (.lst h), .sh (.int n), .own (.lst (o.map D.int)), .own (.lst []), .no, .no, .no, .no] step ⟨h, [], .no, .no, rfl, .inl rfl, .inl rfl, H, rfl, fun q hq => by simp at hq⟩
  obtain ⟨h', l, e4, e6, rfl, o4, o6, H', hlen, hq⟩ := h2
  have hl5 : l.length ≤ 5 := by omega
  exact ⟨_, ⟨h', l, _, _, _, _, rfl, H', web_up (by omega) op (by omega) hq, hl5⟩, h1⟩
noncomputable def a1 (M : Fi) : FS := (parF 2 3 (ioF 0 M (consA (unF lrgD (varF 1)) nilA)) (lstF nilA))
noncomputable def a2 (F M : Fi) : FS := (ifS (andT (cmpT (cm2 fun i j => decide (j < i)) (varF 1) (shF (.int 1))) (cmpT eqD (ioF 0 F (consA (shF (.int 2)) nilA)) (shF (.int 0)))) (seqF (forF (rg2I (consA (shF (.int 1)) (consA (varF 1) nilA))) (gnF 5) (seqF (setF 7 (tupF (consA (binF ixD (varF 2) (varF 5)) (consA (binF ixD (varF 2) (ioF 0 F (consA (varF 5) nilA))) nilA))))
    (exprF (mtF 3 appM (consA (ifF (cmpT eqD (ioF 0 F (consA (shF (.int 2)) nilA)) (shF (.int 0))) (varF 7) (unF revD (varF 7))) nilA)))))
    (retF (clF tupleD (consA (ioF 0 M (consA (varF 3) nilA)) nilA)))) nxF)
noncomputable def a3 (F A : Fi) : FS := (forF (rg1I (consA (ifF (cmpT (cm2 fun i j => decide (j < i)) (varF 1) (shF (.int 1))) (ioF 0 A (consA (lstF (consA (shF (.int 0)) (consA (shF (.int 1)) (consA (varF 1) (consA (shF (.int 5)) nilA))))) nilA)) (shF (.int 0))) nilA)) (gnF 4) (seqF (setF 6 (ioF 0 F (consA (binF subD (varF 1) (shF (.int 1))) nilA)))
    (exprF (mtF 3 appM (consA (tupF (consA (binF ixD (varF 2) (varF 6)) (consA (binF ixD (varF 2) (binF addD (binF addD (varF 6) (shF (.int 1))) (ioF 0 F (consA (binF subD (binF subD (varF 1) (shF (.int 1))) (varF 6)) nilA)))) nilA))) nilA)))))
noncomputable def a4 : FS := (retF (clF tupleD (consA (varF 3) nilA)))
theorem arrows_run {F A M : Fi} (hF : DrawOk F) (hA : AnyOk A) (hM : MixOk M) {n : Nat} (hn : 1 ≤ n ∧ n ≤ 4) {h : List D} (H : HandP h) : ∃ (h' : List D) (l : List Pr), HandP h' ∧ WebP n l ∧ l.length ≤ 5 ∧ runI 2 8 (seqF (a1 M) (seqF (a2 F M) (seqF (a3 F A) a4))) h [.int n] = some (h', .sh (eL l)) := by
  obtain ⟨h1, o, H1, po, ho⟩ := hM.ints H (f := D.int) (rngI n) (by simp [rngI]; omega)
  have op := rng_ord n po
  have hri : (n : Int) ≤ 1000000 ∧ -1000000 ≤ (n : Int) := by omega
  have s1 : a1 M (iniI 8 h [.int n]) = some (.nx [.io (.lst h1), .sh (.int n), .own (.lst (o.map D.int)), .own (.lst []), .no, .no, .no, .no]) := by
    unfold a1
    simp only [runF, ini, fin, retF, exprF, setF, nxF, seqF, ifS, bS_nx, bS_rt, bS, bES, bES_ok, andF, orF, unF, notF, negF, varF, shF, bE, bE_ok, bEt, bT, bA, bA_ok, peek, peeks, store, stores, put, free, Val.norm, truthD, consA, nilA, tupF_ap, lstF_ap, dispF, clF, caF, chF, chT, binF, cmpT, oBl, cm2, on1, truF, notT, andT, orT, ifF, lstFreeV, lstFree, lstFrees, List.map, List.append, List.replicate, List.length, List.getElem?_cons_zero, List.getElem?_cons_succ, List.cons_append, List.nil_append, List.set_cons_zero, List.set_cons_succ, Option.map, Option.bind, if_true, Nat.reduceAdd, Nat.reduceSub, Nat.zero_add, List.length_cons, List.length_nil, Bool.not_true, Bool.not_false, Bool.true_and, reduceIte, Bool.false_eq_true, if_false, Option.map_some, Option.bind_some, Nat.sub_self, List.replicate_zero, List.replicate_succ, Nat.succ_sub_succ_eq_sub, Nat.sub_zero, iniI, parF, par2, ioF, isLst, lstAt, lstSet, Option.isSome, lrgD, hri, and_self, rangeD_rng, ho]
  by_cases n1 : n = 1
  · subst n1
    have s2 : a2 F M [.io (.lst h1), .sh (.int (1 : Nat)), .own (.lst (o.map D.int)), .own (.lst []), .no, .no, .no, .no] = some (.nx [.io (.lst h1), .sh (.int (1 : Nat)), .own (.lst (o.map D.int)), .own (.lst []), .no, .no, .no, .no]) := by
      have t : decide ((1 : Int) < ((1 : Nat) : Int)) = false := rfl
      unfold a2
      simp only [runF, ini, fin, retF, exprF, setF, nxF, seqF, ifS, bS_nx, bS_rt, bS, bES, bES_ok, andF, orF, unF, notF, negF, varF, shF, bE, bE_ok, bEt, bT, bA, bA_ok, peek, peeks, store, stores, put, free, Val.norm, truthD, consA, nilA, tupF_ap, lstF_ap, dispF, clF, caF, chF, chT, binF, cmpT, oBl, cm2, on1, truF, notT, andT, orT, ifF, lstFreeV, lstFree, lstFrees, List.map, List.append, List.replicate, List.length, List.getElem?_cons_zero, List.getElem?_cons_succ, List.cons_append, List.nil_append, List.set_cons_zero, List.set_cons_succ, Option.map, Option.bind, if_true, Nat.reduceAdd, Nat.reduceSub, Nat.zero_add, List.length_cons, List.length_nil, Bool.not_true, Bool.not_false, Bool.true_and, reduceIte, Bool.false_eq_true, if_false, Option.map_some, Option.bind_some, Nat.sub_self, List.replicate_zero, List.replicate_succ, Nat.succ_sub_succ_eq_sub, Nat.sub_zero, t]
    have s3 : a3 F A [.io (.lst h1), .sh (.int (1 : Nat)), .own (.lst (o.map D.int)), .own (.lst []), .no, .no, .no, .no] = some (.nx [.io (.lst h1), .sh (.int (1 : Nat)), .own (.lst (o.map D.int)), .own (.lst []), .no, .no, .no, .no]) := by
      have t : decide ((1 : Int) < ((1 : Nat) : Int)) = false := rfl
      unfold a3
      simp only [runF, ini, fin, retF, exprF, setF, nxF, seqF, ifS, bS_nx, bS_rt, bS, bES, bES_ok, andF, orF, unF, notF, negF, varF, shF, bE, bE_ok, bEt, bT, bA, bA_ok, peek, peeks, store, stores, put, free, Val.norm, truthD, consA, nilA, tupF_ap, lstF_ap, dispF, clF, caF, chF, chT, binF, cmpT, oBl, cm2, on1, truF, notT, andT, orT, ifF, lstFreeV, lstFree, lstFrees, List.map, List.append, List.replicate, List.length, List.getElem?_cons_zero, List.getElem?_cons_succ, List.cons_append, List.nil_append, List.set_cons_zero, List.set_cons_succ, Option.map, Option.bind, if_true, Nat.reduceAdd, Nat.reduceSub, Nat.zero_add, List.length_cons, List.length_nil, Bool.not_true, Bool.not_false, Bool.true_and, reduceIte, Bool.false_eq_true, if_false, Option.map_some, Option.bind_some, Nat.sub_self, List.replicate_zero, List.replicate_succ, Nat.succ_sub_succ_eq_sub, Nat.sub_zero, forF, rg1I, t]
      rfl
    exact ⟨h1, [], H1, ⟨by omega, by omega, by simp, fun q hq => by simp at hq, ⟨fun _ => 0, fun q hq => by simp at hq⟩⟩, by simp, runI_rt (by simp) (seq_ok s1 (seq_ok s2 (seq_ok s3 rfl))) rfl⟩
  · obtain ⟨h2, s, H2, s0, s1', hd⟩ := hF.go h1 H1 2 (by omega)
    have t : decide ((1 : Int) < (n : Int)) = true := decide_eq_true (by omega)
    by_cases hs : s = 0
    · subst hs
      obtain ⟨e', ⟨h3, l, e4, e5, e6, e7, rfl, H3, w, hl⟩, hloop⟩ := ar_tree hF hn op H2
      obtain ⟨h4, m, H4, pm4, hm⟩ := hM.ints H3 (f := eA) l (by omega)
      have fit : rg2I (consA (shF (.int 1)) (consA (varF 1) nilA)) [.io (.lst h2), .sh (.int n), .own (.lst (o.map D.int)), .own (.lst []), .no, .no, .no, .no] = some (.ok [] (rangeD 1 n) [.io (.lst h2), .sh (.int n), .own (.lst (o.map D.int)), .own (.lst []), .no, .no, .no, .no]) := by
        have c : (-4611686018427387904 ≤ (1 : Int) ∧ (1 : Int) < 4611686018427387904) ∧ (-4611686018427387904 ≤ (n : Int) ∧ (n : Int) < 4611686018427387904) := by omega
        simp only [runF, ini, fin, retF, exprF, setF, nxF, seqF, ifS, bS_nx, bS_rt, bS, bES, bES_ok, andF, orF, unF, notF, negF, varF, shF, bE, bE_ok, bEt, bT, bA, bA_ok, peek, peeks, store, stores, put, free, Val.norm, truthD, consA, nilA, tupF_ap, lstF_ap, dispF, clF, caF, chF, chT, binF, cmpT, oBl, cm2, on1, truF, notT, andT, orT, ifF, lstFreeV, lstFree, lstFrees, List.map, List.append, List.replicate, List.length, List.getElem?_cons_zero, List.getElem?_cons_succ, List.cons_append, List.nil_append, List.set_cons_zero, List.set_cons_succ, Option.map, Option.bind, if_true, Nat.reduceAdd, Nat.reduceSub, Nat.zero_add, List.length_cons, List.length_nil, Bool.not_true, Bool.not_false, Bool.true_and, reduceIte, Bool.false_eq_true, if_false, Option.map_some, Option.bind_some, Nat.sub_self, List.replicate_zero, List.replicate_succ, Nat.succ_sub_succ_eq_sub, Nat.sub_zero, rg2I, c, and_self]
      have ff : forF (rg2I (consA (shF (.int 1)) (consA (varF 1) nilA))) ar_g (ar_b F) [.io (.lst h2), .sh (.int n), .own (.lst (o.map D.int)), .own (.lst []), .no, .no, .no, .no] = some (.nx [.io (.lst h3), .sh (.int n), .own (.lst (o.map D.int)), .own (.lst (l.map eA)), e4, e5, e6, e7]) := by
        exact for_ok fit rfl hloop
      have s2 : a2 F M [.io (.lst h1), .sh (.int n), .own (.lst (o.map D.int)), .own (.lst []), .no, .no, .no, .no] = some (.rt (.sh (eL m)) [.io (.lst h4), .sh (.int n), .own (.lst (o.map D.int)), .sh (.lst (l.map eA)), e4, e5, e6, e7]) := by
        have tt : andT (cmpT (cm2 fun i j => decide (j < i)) (varF 1) (shF (.int 1))) (cmpT eqD (ioF 0 F (consA (shF (.int 2)) nilA)) (shF (.int 0))) [.io (.lst h1), .sh (.int n), .own (.lst (o.map D.int)), .own (.lst []), .no, .no, .no, .no] = some (.ok true [.io (.lst h2), .sh (.int n), .own (.lst (o.map D.int)), .own (.lst []), .no, .no, .no, .no]) := by
          simp only [runF, ini, fin, retF, exprF, setF, nxF, seqF, ifS, bS_nx, bS_rt, bS, bES, bES_ok, andF, orF, unF, notF, negF, varF, shF, bE, bE_ok, bEt, bT, bA, bA_ok, peek, peeks, store, stores, put, free, Val.norm, truthD, consA, nilA, tupF_ap, lstF_ap, dispF, clF, caF, chF, chT, binF, cmpT, oBl, cm2, on1, truF, notT, andT, orT, ifF, lstFreeV, lstFree, lstFrees, List.map, List.append, List.replicate, List.length, List.getElem?_cons_zero, List.getElem?_cons_succ, List.cons_append, List.nil_append, List.set_cons_zero, List.set_cons_succ, Option.map, Option.bind, if_true, Nat.reduceAdd, Nat.reduceSub, Nat.zero_add, List.length_cons, List.length_nil, Bool.not_true, Bool.not_false, Bool.true_and, reduceIte, Bool.false_eq_true, if_false, Option.map_some, Option.bind_some, Nat.sub_self, List.replicate_zero, List.replicate_succ, Nat.succ_sub_succ_eq_sub, Nat.sub_zero, ioF, isLst, lstAt, lstSet, Option.isSome, t, hd, eqD_int, decide_true]
        have rr : retF (clF tupleD (consA (ioF 0 M (consA (varF 3) nilA)) nilA)) [.io (.lst h3), .sh (.int n), .own (.lst (o.map D.int)), .own (.lst (l.map eA)), e4, e5, e6, e7] = some (.rt (.sh (eL m)) [.io (.lst h4), .sh (.int n), .own (.lst (o.map D.int)), .sh (.lst (l.map eA)), e4, e5, e6, e7]) := by
          have tl : tupleD [.lst (m.map eA)] = some (.sh (eL m)) := rfl
          simp only [runF, ini, fin, retF, exprF, setF, nxF, seqF, ifS, bS_nx, bS_rt, bS, bES, bES_ok, andF, orF, unF, notF, negF, varF, shF, bE, bE_ok, bEt, bT, bA, bA_ok, peek, peeks, store, stores, put, free, Val.norm, truthD, consA, nilA, tupF_ap, lstF_ap, dispF, clF, caF, chF, chT, binF, cmpT, oBl, cm2, on1, truF, notT, andT, orT, ifF, lstFreeV, lstFree, lstFrees, List.map, List.append, List.replicate, List.length, List.getElem?_cons_zero, List.getElem?_cons_succ, List.cons_append, List.nil_append, List.set_cons_zero, List.set_cons_succ, Option.map, Option.bind, if_true, Nat.reduceAdd, Nat.reduceSub, Nat.zero_add, List.length_cons, List.length_nil, Bool.not_true, Bool.not_false, Bool.true_and, reduceIte, Bool.false_eq_true, if_false, Option.map_some, Option.bind_some, Nat.sub_self, List.replicate_zero, List.replicate_succ, Nat.succ_sub_succ_eq_sub, Nat.sub_zero, ioF, isLst, lstAt, lstSet, Option.isSome, hm, tl]
        exact if_t tt (seq_ok ff rr)
      exact ⟨h4, m, H4, w.perm pm4.symm, by rw [pm4.length_eq]; exact hl, runI_rt (by simp) (seq_ok s1 (seq_rt s2)) rfl⟩
    · have s2 : a2 F M [.io (.lst h1), .sh (.int n), .own (.lst (o.map D.int)), .own (.lst []), .no, .no, .no, .no] = some (.nx [.io (.lst h2), .sh (.int n), .own (.lst (o.map D.int)), .own (.lst []), .no, .no, .no, .no]) := by
        have tt : andT (cmpT (cm2 fun i j => decide (j < i)) (varF 1) (shF (.int 1))) (cmpT eqD (ioF 0 F (consA (shF (.int 2)) nilA)) (shF (.int 0))) [.io (.lst h1), .sh (.int n), .own (.lst (o.map D.int)), .own (.lst []), .no, .no, .no, .no] = some (.ok false [.io (.lst h2), .sh (.int n), .own (.lst (o.map D.int)), .own (.lst []), .no, .no, .no, .no]) := by
          simp only [runF, ini, fin, retF, exprF, setF, nxF, seqF, ifS, bS_nx, bS_rt, bS, bES, bES_ok, andF, orF, unF, notF, negF, varF, shF, bE, bE_ok, bEt, bT, bA, bA_ok, peek, peeks, store, stores, put, free, Val.norm, truthD, consA, nilA, tupF_ap, lstF_ap, dispF, clF, caF, chF, chT, binF, cmpT, oBl, cm2, on1, truF, notT, andT, orT, ifF, lstFreeV, lstFree, lstFrees, List.map, List.append, List.replicate, List.length, List.getElem?_cons_zero, List.getElem?_cons_succ, List.cons_append, List.nil_append, List.set_cons_zero, List.set_cons_succ, Option.map, Option.bind, if_true, Nat.reduceAdd, Nat.reduceSub, Nat.zero_add, List.length_cons, List.length_nil, Bool.not_true, Bool.not_false, Bool.true_and, reduceIte, Bool.false_eq_true, if_false, Option.map_some, Option.bind_some, Nat.sub_self, List.replicate_zero, List.replicate_succ, Nat.succ_sub_succ_eq_sub, Nat.sub_zero, ioF, isLst, lstAt, lstSet, Option.isSome, t, hd, eqD_int, hs, decide_false]
        exact if_f tt rfl
      obtain ⟨h3, d, H3, hdm, hda⟩ := hA.go h2 H2 [.int 0, .int 1, .int n, .int 5] (by simp) (by simp)
      have hdd : ∃ t : Nat, d = .int t ∧ t ≤ 5 := by
        simp only [List.mem_cons, List.not_mem_nil, or_false] at hdm
        rcases hdm with rfl | rfl | rfl | rfl
        · exact ⟨0, rfl, by omega⟩
        · exact ⟨1, rfl, by omega⟩
        · exact ⟨n, rfl, by omega⟩
        · exact ⟨5, rfl, by omega⟩
      obtain ⟨t5, rfl, ht5⟩ := hdd
      obtain ⟨e', ⟨h4, l, e4, e5, e6, e7, rfl, H4, w, hl⟩, hloop⟩ := as_loop hF (n := n) (by omega) op (ds := rangeD 0 t5) (by simp [rangeD]; omega) H3
      have fit : rg1I (consA (ifF (cmpT (cm2 fun i j => decide (j < i)) (varF 1) (shF (.int 1))) (ioF 0 A (consA (lstF (consA (shF (.int 0)) (consA (shF (.int 1)) (consA (varF 1) (consA (shF (.int 5)) nilA))))) nilA)) (shF (.int 0))) nilA) [.io (.lst h2), .sh (.int n), .own (.lst (o.map D.int)), .own (.lst []), .no, .no, .no, .no] = some (.ok [] (rangeD 0 t5) [.io (.lst h3), .sh (.int n), .own (.lst (o.map D.int)), .own (.lst []), .no, .no, .no, .no]) := by
        have c : -4611686018427387904 ≤ (t5 : Int) ∧ (t5 : Int) < 4611686018427387904 := by omega
        simp only [runF, ini, fin, retF, exprF, setF, nxF, seqF, ifS, bS_nx, bS_rt, bS, bES, bES_ok, andF, orF, unF, notF, negF, varF, shF, bE, bE_ok, bEt, bT, bA, bA_ok, peek, peeks, store, stores, put, free, Val.norm, truthD, consA, nilA, tupF_ap, lstF_ap, dispF, clF, caF, chF, chT, binF, cmpT, oBl, cm2, on1, truF, notT, andT, orT, ifF, lstFreeV, lstFree, lstFrees, List.map, List.append, List.replicate, List.length, List.getElem?_cons_zero, List.getElem?_cons_succ, List.cons_append, List.nil_append, List.set_cons_zero, List.set_cons_succ, Option.map, Option.bind, if_true, Nat.reduceAdd, Nat.reduceSub, Nat.zero_add, List.length_cons, List.length_nil, Bool.not_true, Bool.not_false, Bool.true_and, reduceIte, Bool.false_eq_true, if_false, Option.map_some, Option.bind_some, Nat.sub_self, List.replicate_zero, List.replicate_succ, Nat.succ_sub_succ_eq_sub, Nat.sub_zero, rg1I, ioF, isLst, lstAt, lstSet, Option.isSome, t, hda, c, and_self]
      have s3 : a3 F A [.io (.lst h2), .sh (.int n), .own (.lst (o.map D.int)), .own (.lst []), .no, .no, .no, .no] = some (.nx [.io (.lst h4), .sh (.int n), .own (.lst (o.map D.int)), .own (.lst (l.map eA)), e4, e5, e6, e7]) := by
        exact for_ok fit rfl hloop
      exact ⟨h4, l, H4, w, hl, runI_rt (by simp) (seq_ok s1 (seq_ok s2 (seq_ok s3 rfl))) rfl⟩
theorem ok_arrows {n : Nat} (hn : 1 ≤ n ∧ n ≤ 4) {h : List D} (H : HandP h) : ∃ (h' : List D) (l : List Pr), HandP h' ∧ WebP n l ∧ l.length ≤ 5 ∧ f__law_arrows h [.int n] = some (h', .sh (eL l)) := arrows_run draw_ok any_ok mix_ok hn H
end K94
namespace K94
open PySem PySem.Spec L2 Ev Ma
/-! ### form_is_kept -/
theorem rng_map (n : Nat) : ((List.range n).map fun (i : Nat) => D.int i) = (rngI n).map D.int := by
  unfold rngI
  rw [List.map_map]
  rfl
theorem units_in {n : Nat} (hn : n ≤ 4) (l : List Pr) (env : List Ent) (a : Int) (h0 : env[0]? = some (.sh (webD n l))) (h4 : env[4]? = some (.sh (.int a))) (h6 : opn env[6]?) : compF true [6] (rg1I (consA (unF (fldD 0 0) (varF 0)) nilA)) (gnF 6) yesT (clF intD (consA (binF (oBl eqD) (varF 4) (varF 6)) nilA)) env = some (.ok (.fr (.lst ((un n a).map D.int))) env) := by
  have hit : rg1I (consA (unF (fldD 0 0) (varF 0)) nilA) env = some (.ok [] ((List.range n).map fun (i : Nat) => D.int i) env) := by
    refine rg1_ok (by omega) ?_
    unfold unF
    rw [var_sh h0]
    rfl
  rw [rng_map] at hit
  have hc := comp1 (i := 6) (env := env) (tt := yesT) (fe := clF intD (consA (binF (oBl eqD) (varF 4) (varF 6)) nilA)) (t := fun _ => true) (h := fun d => .int (if a = intOf d then 1 else 0)) hit h6 (by simp [rngI]; omega) (fun d hd => ?_)
  · rw [filter_true, List.map_map] at hc
    rw [hc]
    congr 4
    unfold un
    rw [List.map_map]
    rfl
  · obtain ⟨i, hi, rfl⟩ := List.mem_map.mp hd
    refine ⟨rfl, fun _ => ⟨_, ?_, .inl rfl⟩⟩
    have l6 : 6 < env.length := by rcases h6 with h | ⟨d, h⟩ <;> exact (List.getElem?_eq_some_iff.mp h).1
    generalize he : env.set 6 (.sh (.int i)) = env'
    have v4 : varF 4 env' = some (.ok (.sh (.int a)) env') := var_sh (by rw [← he, List.getElem?_set_ne (by decide)]; exact h4)
    have v6 : varF 6 env' = some (.ok (.sh (.int i)) env') := var_sh (by rw [← he, List.getElem?_set_self l6])
    have ib : ∀ b : Bool, intD [.bl b] = some (.sh (.int (if b then 1 else 0))) := fun b => rfl
    simp only [clF, consA, binF, nilA, v4, v6, bE_ok, peek, oBl, eqD_int, Option.map_some, Val.norm, bA, peeks, ib, intOf]
    by_cases e : a = i <;> simp [e]
noncomputable def fk1 : FS := (setF 2 (compF true [4] (rg1I (consA (unF (fldD 0 0) (varF 0)) nilA)) (gnF 4) yesT (clF tupleD (consA (compF true [6] (rg1I (consA (unF (fldD 0 0) (varF 0)) nilA)) (gnF 6) yesT (clF intD (consA (binF (oBl eqD) (varF 4) (varF 6)) nilA))) nilA))))
noncomputable def fk_b (FB : Fn) : FS := (ifS (cmpT neD (caF FB (consA (varF 0) (consA (varF 5) (consA (varF 7) nilA)))) (caF FB (consA (varF 3) (consA (binF ixD (varF 2) (binF ixD (varF 1) (varF 4))) (consA (binF ixD (varF 2) (binF ixD (varF 1) (varF 6))) nilA))))) (retF (shF (.bl false))) nxF)
noncomputable def fk3 (FB : Fn) : FS := (forF (enI (consA (varF 2) nilA)) (gtF (gconsF (gnF 4) (gconsF (gnF 5) gnilF))) (forF (enI (consA (varF 2) nilA)) (gtF (gconsF (gnF 6) (gconsF (gnF 7) gnilF))) (ifS (cmpT neD (caF FB (consA (varF 0) (consA (varF 5) (consA (varF 7) nilA)))) (caF FB (consA (varF 3) (consA (binF ixD (varF 2) (binF ixD (varF 1) (varF 4))) (consA (binF ixD (varF 2) (binF ixD (varF 1) (varF 6))) nilA))))) (retF (shF (.bl false))) nxF)))
def units (n : Nat) : List D := (rngI n).map fun a => eO (un n a)
theorem free_units (n : Nat) : lstFrees (units n) = true := by
  unfold units
  have : ((rngI n).map fun a => eO (un n a)) = ((rngI n).map (un n)).map eO := by rw [List.map_map]; rfl
  rw [this]
  exact free_eO _
theorem fk1_ok {n : Nat} (hn : n ≤ 4) (l : List Pr) (o : D) : fk1 [.sh (webD n l), .sh o, .no, .no, .no, .no, .no, .no] = some (.nx [.sh (webD n l), .sh o, .own (.lst (units n)), .no, .no, .no, .no, .no]) := by
  have hit : rg1I (consA (unF (fldD 0 0) (varF 0)) nilA) [.sh (webD n l), .sh o, .no, .no, .no, .no, .no, .no] = some (.ok [] ((List.range n).map fun (i : Nat) => D.int i) [.sh (webD n l), .sh o, .no, .no, .no, .no, .no, .no]) := rg1_ok (by omega) rfl
  rw [rng_map] at hit
  have hc := comp1 (i := 4) (env := [.sh (webD n l), .sh o, .no, .no, .no, .no, .no, .no]) (tt := yesT) (fe := clF tupleD (consA (compF true [6] (rg1I (consA (unF (fldD 0 0) (varF 0)) nilA)) (gnF 6) yesT (clF intD (consA (binF (oBl eqD) (varF 4) (varF 6)) nilA))) nilA)) (t := fun _ => true) (h := fun d => eO (un n (intOf d))) hit (.inl rfl) (by simp [rngI]; omega) (fun d hd => ?_)
  · rw [filter_true, List.map_map] at hc
    unfold fk1
    exact set_ok hc rfl
  · obtain ⟨i, hi, rfl⟩ := List.mem_map.mp hd
    refine ⟨rfl, fun _ => ⟨_, ?_, .inl rfl⟩⟩
    have hu := units_in hn l [.sh (webD n l), .sh o, .no, .no, .sh (.int i), .no, .no, .no] i rfl rfl (.inl rfl)
    show clF tupleD _ [.sh (webD n l), .sh o, .no, .no, .sh (.int i), .no, .no, .no] = _
    exact cl_ok (consA_ok hu nilA_ok) rfl rfl
theorem enum_units (n : Nat) : enumDs (units n) = (rngI n).map fun a => .tup [.int a, eO (un n a)] := by
  unfold enumDs units
  apply List.ext_getElem
  · simp
  · intro i h1 h2
    have hi : i < n := by simpa [rngI] using h1
    simp [rngI, hi]
theorem fk_it {n : Nat} {w o far : D} {e4 e5 e6 e7 : Ent} : enI (consA (varF 2) nilA) [.sh w, .sh o, .sh (.lst (units n)), .sh far, e4, e5, e6, e7] = some (.ok [] (enumDs (units n)) [.sh w, .sh o, .sh (.lst (units n)), .sh far, e4, e5, e6, e7]) := rfl
theorem fk_body {FB : Fn} {n : Nat} {l m : List Pr} {o : List Int} (ho : OrdP n o) {a b : Int} (ha : 0 ≤ a ∧ a < n) (hb : 0 ≤ b ∧ b < n) {x : Int} (h1 : FB [webD n l, eO (un n a), eO (un n b)] = some (.ok (.sh (.int x)))) (h2 : FB [webD n m, eO (un n (pl o a)), eO (un n (pl o b))] = some (.ok (.sh (.int x)))) :
    fk_b FB [.sh (webD n l), .sh (eO o), .sh (.lst (units n)), .sh (webD n m), .sh (.int a), .sh (eO (un n a)), .sh (.int b), .sh (eO (un n b))] = some (.nx [.sh (webD n l), .sh (eO o), .sh (.lst (units n)), .sh (webD n m), .sh (.int a), .sh (eO (un n a)), .sh (.int b), .sh (eO (un n b))]) := by
  have ol : (o.length : Int) = n := ho.1
  have i1 := ix_pl (o := o) (i := a) (by omega)
  have i2 := ix_pl (o := o) (i := b) (by omega)
  have ux : ∀ i : Int, 0 ≤ i ∧ i < n → ixD (.lst (units n)) (.int i) = some (.sh (eO (un n i))) := fun i hi => by
    unfold units
    have hk : i.toNat < n := by omega
    have : (rngI n)[i.toNat]? = some i := by
      unfold rngI
      rw [List.getElem?_map, List.getElem?_range hk]
      show some ((i.toNat : Nat) : Int) = some i
      rw [show ((i.toNat : Nat) : Int) = i by omega]
    exact ix_lst (f := fun a => eO (un n a)) hi.1 this
  have u1 := ux _ (pl_in ho ha)
  have u2 := ux _ (pl_in ho hb)
  have ne : neD (.int x) (.int x) = some false := by rw [ne_int]; simp
  unfold fk_b
  refine if_f (e1 := [.sh (webD n l), .sh (eO o), .sh (.lst (units n)), .sh (webD n m), .sh (.int a), .sh (eO (un n a)), .sh (.int b), .sh (eO (un n b))]) ?_ rfl
  simp only [runF, ini, fin, retF, exprF, setF, nxF, seqF, ifS, bS_nx, bS_rt, bS, bES, bES_ok, andF, orF, unF, notF, negF, varF, shF, bE, bE_ok, bEt, bT, bA, bA_ok, peek, peeks, store, stores, put, free, Val.norm, truthD, consA, nilA, tupF_ap, lstF_ap, dispF, clF, caF, chF, chT, binF, cmpT, oBl, cm2, on1, truF, notT, andT, orT, ifF, lstFreeV, lstFree, lstFrees, List.map, List.append, List.replicate, List.length, List.getElem?_cons_zero, List.getElem?_cons_succ, List.cons_append, List.nil_append, List.set_cons_zero, List.set_cons_succ, Option.map, Option.bind, if_true, Nat.reduceAdd, Nat.reduceSub, Nat.zero_add, List.length_cons, List.length_nil, Bool.not_true, Bool.not_false, Bool.true_and, reduceIte, Bool.false_eq_true, if_false, Option.map_some, Option.bind_some, Nat.sub_self, List.replicate_zero, List.replicate_succ, Nat.succ_sub_succ_eq_sub, Nat.sub_zero, h1, h2, i1, i2, u1, u2, ne]
theorem kept_run {FB WP : Fn} {n : Nat} (hn : 1 ≤ n ∧ n ≤ 4) {l m : List Pr} {o : List Int} (ho : OrdP n o) (hW : WP [webD n l, eO o] = some (.ok (.sh (webD n m)))) (hF : ∀ a b : Int, 0 ≤ a ∧ a < n → 0 ≤ b ∧ b < n → ∃ x : Int, FB [webD n l, eO (un n a), eO (un n b)] = some (.ok (.sh (.int x))) ∧ FB [webD n m, eO (un n (pl o a)), eO (un n (pl o b))] = some (.ok (.sh (.int x)))) :
    runF 2 8 (seqF (setF 2 (compF true [4] (rg1I (consA (unF (fldD 0 0) (varF 0)) nilA)) (gnF 4) yesT (clF tupleD (consA (compF true [6] (rg1I (consA (unF (fldD 0 0) (varF 0)) nilA)) (gnF 6) yesT (clF intD (consA (binF (oBl eqD) (varF 4) (varF 6)) nilA))) nilA))))
    (seqF (setF 3 (caF WP (consA (varF 0) (consA (varF 1) nilA))))
    (seqF (forF (enI (consA (varF 2) nilA)) (gtF (gconsF (gnF 4) (gconsF (gnF 5) gnilF))) (forF (enI (consA (varF 2) nilA)) (gtF (gconsF (gnF 6) (gconsF (gnF 7) gnilF))) (ifS (cmpT neD (caF FB (consA (varF 0) (consA (varF 5) (consA (varF 7) nilA)))) (caF FB (consA (varF 3) (consA (binF ixD (varF 2) (binF ixD (varF 1) (varF 4))) (consA (binF ixD (varF 2) (binF ixD (varF 1) (varF 6))) nilA))))) (retF (shF (.bl false))) nxF)))
    (retF (shF (.bl true)))))) [webD n l, eO o] = some (.ok (.sh (.bl true))) := by
  have s1 := fk1_ok (n := n) (by omega) l (eO o)
  have s2 : setF 3 (caF WP (consA (varF 0) (consA (varF 1) nilA))) [.sh (webD n l), .sh (eO o), .own (.lst (units n)), .no, .no, .no, .no, .no] = some (.nx [.sh (webD n l), .sh (eO o), .own (.lst (units n)), .sh (webD n m), .no, .no, .no, .no]) := by
    simp only [runF, ini, fin, retF, exprF, setF, nxF, seqF, ifS, bS_nx, bS_rt, bS, bES, bES_ok, andF, orF, unF, notF, negF, varF, shF, bE, bE_ok, bEt, bT, bA, bA_ok, peek, peeks, store, stores, put, free, Val.norm, truthD, consA, nilA, tupF_ap, lstF_ap, dispF, clF, caF, chF, chT, binF, cmpT, oBl, cm2, on1, truF, notT, andT, orT, ifF, lstFreeV, lstFree, lstFrees, List.map, List.append, List.replicate, List.length, List.getElem?_cons_zero, List.getElem?_cons_succ, List.cons_append, List.nil_append, List.set_cons_zero, List.set_cons_succ, Option.map, Option.bind, if_true, Nat.reduceAdd, Nat.reduceSub, Nat.zero_add, List.length_cons, List.length_nil, Bool.not_true, Bool.not_false, Bool.true_and, reduceIte, Bool.false_eq_true, if_false, Option.map_some, Option.bind_some, Nat.sub_self, List.replicate_zero, List.replicate_succ, Nat.succ_sub_succ_eq_sub, Nat.sub_zero, hW]
  have dm : ∀ d ∈ enumDs (units n), ∃ a : Int, (0 ≤ a ∧ a < n) ∧ d = .tup [.int a, eO (un n a)] := fun d hd => by
    rw [enum_units] at hd
    obtain ⟨a, ha, rfl⟩ := List.mem_map.mp hd
    unfold rngI at ha
    obtain ⟨k, hk, rfl⟩ := List.mem_map.mp ha
    have := List.mem_range.mp hk
    exact ⟨_, by omega, rfl⟩
  have inner : ∀ a : Int, 0 ≤ a ∧ a < n → ∀ e6 e7, opn (some e6) → opn (some e7) → ∃ e', forF (enI (consA (varF 2) nilA)) (gtF (gconsF (gnF 6) (gconsF (gnF 7) gnilF))) (fk_b FB) [.sh (webD n l), .sh (eO o), .sh (.lst (units n)), .sh (webD n m), .sh (.int a), .sh (eO (un n a)), e6, e7] = some (.nx e') ∧ ∃ e6 e7, opn (some e6) ∧ opn (some e7) ∧ e' = [.sh (webD n l), .sh (eO o), .sh (.lst (units n)), .sh (webD n m), .sh (.int a), .sh (eO (un n a)), e6, e7] := fun a ha e6 e7 o6 o7 => by
    obtain ⟨e', h1, h2⟩ := forL_keep (g := gtF (gconsF (gnF 6) (gconsF (gnF 7) gnilF))) (b := fk_b FB) (fun e => ∃ e6 e7, opn (some e6) ∧ opn (some e7) ∧ e = [.sh (webD n l), .sh (eO o), .sh (.lst (units n)), .sh (webD n m), .sh (.int a), .sh (eO (un n a)), e6, e7]) (enumDs (units n)) [.sh (webD n l), .sh (eO o), .sh (.lst (units n)), .sh (webD n m), .sh (.int a), .sh (eO (un n a)), e6, e7] (fun d hd e he => by
      obtain ⟨b, hb, rfl⟩ := dm d hd
      obtain ⟨e6, e7, o6, o7, rfl⟩ := he
      obtain ⟨x, x1, x2⟩ := hF a b ha hb
      refine ⟨_, _, gt2 (by decide) o6 o7, fk_body ho ha hb x1 x2, _, _, .inr ⟨_, rfl⟩, .inr ⟨_, rfl⟩, rfl⟩) ⟨e6, e7, o6, o7, rfl⟩
    exact ⟨e', for_ok fk_it rfl h1, h2⟩
  have outer : ∃ e', fk3 FB [.sh (webD n l), .sh (eO o), .own (.lst (units n)), .sh (webD n m), .no, .no, .no, .no] = some (.nx e') := by
    obtain ⟨e', h1, h2⟩ := forL_keep (g := gtF (gconsF (gnF 4) (gconsF (gnF 5) gnilF))) (b := forF (enI (consA (varF 2) nilA)) (gtF (gconsF (gnF 6) (gconsF (gnF 7) gnilF))) (fk_b FB)) (fun e => ∃ e4 e5 e6 e7, opn (some e4) ∧ opn (some e5) ∧ opn (some e6) ∧ opn (some e7) ∧ e = [.sh (webD n l), .sh (eO o), .sh (.lst (units n)), .sh (webD n m), e4, e5, e6, e7]) (enumDs (units n)) [.sh (webD n l), .sh (eO o), .sh (.lst (units n)), .sh (webD n m), .no, .no, .no, .no] (fun d hd e he => by
      obtain ⟨a, ha, rfl⟩ := dm d hd
      obtain ⟨e4, e5, e6, e7, o4, o5, o6, o7, rfl⟩ := he
      obtain ⟨e', h1, e6', e7', o6', o7', rfl⟩ := inner a ha e6 e7 o6 o7
      exact ⟨_, _, gt2 (by decide) o4 o5, h1, _, _, _, _, .inr ⟨_, rfl⟩, .inr ⟨_, rfl⟩, o6', o7', rfl⟩) ⟨.no, .no, .no, .no, .inl rfl, .inl rfl, .inl rfl, .inl rfl, rfl⟩
    exact ⟨e', for_ok (ops := [2]) rfl rfl h1⟩
  obtain ⟨e', s3⟩ := outer
  exact runF_rt rfl (seq_ok s1 (seq_ok s2 (seq_ok s3 (ret_ok rfl)))) rfl
theorem ok_form_is_kept {n : Nat} (hn : 1 ≤ n ∧ n ≤ 4) {l : List Pr} (h : WebP n l) {o : List Int} (ho : OrdP n o) : f_form_is_kept [webD n l, eO o] = some (.ok (.sh (.bl true))) :=
  kept_run hn ho (ok_with_places h ho) fun a b ha hb => ⟨_, ok_form_by h (un_len n a) (un_len n b) (un_01 n a), by
    rw [form_same hn.2 h.inr ho ha hb]
    exact ok_form_by (h.ap ho).srt (un_len n _) (un_len n _) (un_01 n _)⟩
end K94
namespace K94
open PySem PySem.Spec L2 Ev Ma
open PySem.W (keyToks keyToksAll)
/-! ### x in a list of trees -/
theorem any_tree {a : D} {p : PyData} (ha : tree a = true) (h1 : toPy a = some p) : ∀ (ds : List D) (ps : List PyData), trees ds = true → toPys ds = some ps → ((ps.any fun z => PyData.eqv z p) = true ↔ a ∈ ds)
  | [], ps, _, h => by cases h; simp
  | d :: ds, ps, ht, h => by
    obtain ⟨t1, t2⟩ := Bool.and_eq_true_iff.mp (show (tree d && trees ds) = true by simpa [trees] using ht)
    simp only [toPys] at h
    cases k1 : toPy d with
    | none => simp only [k1] at h; cases h
    | some q =>
      cases k2 : toPys ds with
      | none => simp only [k1, k2] at h; cases h
      | some qs =>
        simp only [k1, k2] at h
        cases h
        rw [List.any_cons, Bool.or_eq_true, any_tree ha h1 ds qs t2 k2, tree_eqv d a q p t1 ha k1 h1, List.mem_cons]
        exact ⟨fun h => h.imp (fun e => e.symm) id, fun h => h.imp (fun e => e.symm) id⟩
theorem inD_tree (neg : Bool) {a : D} {ds : List D} (ha : tree a = true) (hd : trees ds = true) (h1 : hi a ≤ 60) (h2 : his ds ≤ 60) : ∃ r, inD neg a (.lst ds) = some (xor neg r) ∧ (r = true ↔ a ∈ ds) := by
  obtain ⟨p, k1, k2, k3⟩ := tree_py a ha
  obtain ⟨q, m1, m2, m3⟩ := tree_py (.lst ds) (by simpa [tree] using hd)
  simp only [toPy] at m1
  cases k : toPys ds with
  | none => rw [k] at m1; cases m1
  | some ps =>
    rw [k] at m1
    cases m1
    have s1 : SeqAt.shaped p = true := by unfold SeqAt.shaped; rw [k2]; simp; omega
    have s2 : SeqAt.shaped (.list ps) = true := by
      unfold SeqAt.shaped
      rw [m2]
      simp only [hi] at m3
      simp
      omega
    refine ⟨_, ?_, any_tree ha k1 ds ps hd k⟩
    simp only [inD, k1, k]
    rw [if_pos ⟨s1, s2⟩]
theorem in_eLs (neg : Bool) (x : List Pr) (f : List (List Pr)) : inD neg (eL x) (.lst (f.map eL)) = some (xor neg (decide (x ∈ f))) := by
  obtain ⟨r, h1, h2⟩ := inD_tree neg (tree_eL x) (trees_map tree_eL f) (by have := hi_eL x; omega) (by have := his_map (f := eL) (n := 2) hi_eL f; omega)
  rw [h1]
  congr 2
  have : r = true ↔ x ∈ f := h2.trans ⟨fun h => by
    obtain ⟨y, hy, e⟩ := List.mem_map.mp h
    exact eL_inj e ▸ hy, fun h => List.mem_map.mpr ⟨x, h, rfl⟩⟩
  cases r with
  | true => exact (decide_eq_true (this.mp rfl)).symm
  | false => exact (decide_eq_false fun e => by have := this.mpr e; cases this).symm
theorem eq_web (n : Int) (x y : List Pr) : eqIns 0 2 (webD n x) (webD n y) = some (decide (x = y)) := by
  have t : ∀ z : List Pr, tree (.tup [.int n, eL z]) = true := fun z => by simp [tree, trees, tree_eL]
  have hh : ∀ z : List Pr, hi (.tup [.int n, eL z]) ≤ 64 := fun z => by
    have := hi_eL z
    simp only [hi, his]
    omega
  obtain ⟨r, h1, h2⟩ := eqD_tree (t x) (t y) (hh x) (hh y)
  have e0 : eqIns 0 2 (webD n x) (webD n y) = eqD (.tup [.int n, eL x]) (.tup [.int n, eL y]) := rfl
  rw [e0, h1]
  congr 1
  have : r = true ↔ x = y := h2.trans ⟨fun h => eL_inj (by simpa using h), fun h => by rw [h]⟩
  cases r with
  | true => exact (decide_eq_true (this.mp rfl)).symm
  | false => exact (decide_eq_false fun e => by have := this.mpr e; cases this).symm
theorem bools_web (n : Int) (x : List Pr) : ∀ f : List (List Pr), boolsOf (eqIns 0 2) (webD n x) (f.map (webD n)) = some (f.map fun y => decide (y = x))
  | [] => rfl
  | y :: f => by
    simp only [List.map_cons, boolsOf]
    rw [eq_web, bools_web n x f]
theorem in_webs (neg : Bool) (n : Int) (x : List Pr) (f : List (List Pr)) : inIns 0 2 neg (webD n x) (.lst (f.map (webD n))) = some (xor neg (decide (x ∈ f))) := by
  unfold inIns
  dsimp only
  rw [bools_web]
  show some (xor neg ((f.map fun y => decide (y = x)).any id)) = _
  congr 2
  rw [List.any_map, Bool.eq_iff_iff, List.any_eq_true, decide_eq_true_iff]
  exact ⟨fun ⟨y, h1, h2⟩ => by
    have : y = x := by simpa using h2
    exact this ▸ h1, fun h => ⟨x, h, by simp⟩⟩
/-! ### is a place an end -/
theorem snk_test {env : List Ent} {it : FI} {ops : List Nat} {c : List Pr} {p : Int} {v j k : Nat} (hit : it env = some (.ok ops (c.map eA) env)) (hv : env[v]? = some (.sh (.int p))) (hj : opn env[j]?) (hk : opn env[k]?) (n1 : j ≠ k) (n2 : v ≠ j) (n3 : v ≠ k) (hl : c.length ≤ 1000000) :
    notT (truF (clF anyD (consA (compF true [j, k] it (gtF (gconsF (gnF j) (gconsF (gnF k) gnilF))) yesT (binF (oBl eqD) (varF j) (varF v))) nilA))) env = some (.ok (snk p c) env) := by
  have hc := comp2 (j := j) (k := k) n1 (env := env) (it := it) (tt := yesT) (fe := binF (oBl eqD) (varF j) (varF v)) (ops := ops) (ds := c.map eA) (x := fun d => .int (fst2 d)) (y := fun d => .int (snd2 d)) (t := fun _ => true)
    (h := fun d => .bl (decide (fst2 d = p))) hit hj hk (by simpa using hl) (fun d hd => ?_)
  · rw [filter_true, List.map_map] at hc
    have hb : ((c.map eA).map fun d => D.bl (decide (fst2 d = p))) = c.map fun q => D.bl (decide (q.1 = p)) := by rw [List.map_map]; rfl
    have ha : anyD [.lst (c.map ((fun d => D.bl (decide (fst2 d = p))) ∘ eA))] = some (.sh (.bl (c.any fun q => decide (q.1 = p)))) := by
      have : c.map ((fun d => D.bl (decide (fst2 d = p))) ∘ eA) = c.map fun q => D.bl (decide (q.1 = p)) := rfl
      simp only [anyD, on1, this, blsOf_map, Option.map_some, List.any_map]
      rfl
    exact not_ok (tru_ok (cl_ok (consA_ok hc nilA_ok) rfl ha) rfl rfl)
  · obtain ⟨q, hq, rfl⟩ := List.mem_map.mp hd
    refine ⟨rfl, rfl, fun _ => ⟨_, ?_, .inl rfl⟩⟩
    have kl : k < env.length := by rcases hk with h | ⟨d, h⟩ <;> exact (List.getElem?_eq_some_iff.mp h).1
    have jl : j < env.length := by rcases hj with h | ⟨d, h⟩ <;> exact (List.getElem?_eq_some_iff.mp h).1
    generalize he : (env.set j (.sh (.int (fst2 (eA q))))).set k (.sh (.int (snd2 (eA q)))) = env'
    have ev : varF v env' = some (.ok (.sh (.int p)) env') := var_sh (by rw [← he, List.getElem?_set_ne (Ne.symm n3), List.getElem?_set_ne (Ne.symm n2)]; exact hv)
    have ej : varF j env' = some (.ok (.sh (.int q.1)) env') := var_sh (by rw [← he, List.getElem?_set_ne (Ne.symm n1), List.getElem?_set_self jl]; rfl)
    exact bl_ok ej ev rfl rfl (eqD_int _ _)
/-! ### the law's own turn -/
theorem ok_law_turned {c : List Pr} {p : Int} (hs : snk p c = true) (hl : c.length ≤ 1000000) : f__law_turned [eL c, .int p] = some (.ok (.sh (eL (trn p c)))) := by
  have hs' := snk_iff.mp hs
  have hc := comp1 (i := 2) (env := [.sh (eL c), .sh (.int p), .no]) (it := seqI (varF 0)) (tt := yesT) (fe := ifF (cmpT (inD false) (varF 1) (varF 2)) (unF revD (varF 2)) (varF 2)) (ops := []) (ds := c.map eA) (t := fun _ => true) (h := fun d => eA (tn p (fst2 d, snd2 d))) rfl (.inl rfl) (by simpa using hl) (fun d hd => ?_)
  · rw [filter_true, List.map_map] at hc
    have e1 : c.map ((fun d => eA (tn p (fst2 d, snd2 d))) ∘ eA) = (c.map (tn p)).map eA := by rw [List.map_map]; rfl
    rw [e1] at hc
    have h2 := sort_lst (l := c.map (tn p)) (by simpa using hl)
    exact runF_rt rfl (ret_ok (cl_ok (consA_ok (cl_ok (consA_ok hc nilA_ok) rfl h2) nilA_ok) rfl rfl)) rfl
  · obtain ⟨q, hq, rfl⟩ := List.mem_map.mp hd
    have ne := hs' q hq
    refine ⟨rfl, fun _ => ⟨_, ?_, .inl rfl⟩⟩
    have hin : inD false (.int p) (eA q) = some (decide (q.2 = p)) := by
      have := inD_tints false p [q.1, q.2]
      rw [show eA q = .tup ([q.1, q.2].map D.int) from rfl, this]
      congr 1
      by_cases e : q.2 = p
      · subst e; simp
      · have e' : ¬ p = q.2 := fun z => e z.symm
        have ne' : ¬ p = q.1 := fun z => ne z.symm
        simp [e, e', ne']
    by_cases e : q.2 = p
    · rw [decide_eq_true e] at hin
      have t : tn p q = (q.2, q.1) := if_pos e
      refine ife_t (cmp_ok (da := .int p) (db := eA q) rfl rfl rfl rfl hin) ?_
      exact un_ok (da := eA q) rfl rfl (by rw [eA_rev]; exact congrArg (fun z => some (Val.sh (eA z))) t.symm)
    · rw [decide_eq_false e] at hin
      have t : tn p q = q := if_neg e
      refine ife_f (cmp_ok (da := .int p) (db := eA q) rfl rfl rfl rfl hin) ?_
      show some (Ou.ok (.sh (eA q)) _) = some (Ou.ok (.sh (eA (tn p q))) _)
      rw [t]
end K94
namespace K94
open PySem PySem.Spec L2 Ev Ma
theorem gn_ok {i : Nat} {d : D} {env : List Ent} (h : opn env[i]?) : gnF i d env = some (env.set i (.sh d)) := by
  unfold gnF put
  dsimp only
  rw [if_pos (opn_free h)]
theorem put_sh {i : Nat} {d : D} {env : List Ent} (h : opn env[i]?) : put env i (.sh d) = some (env.set i (.sh d)) := by
  unfold put
  dsimp only
  rw [if_pos (opn_free h)]
theorem len_pre {α : Type} {f g : List α} (h : f <+: g) : f.length ≤ g.length := h.length_le
theorem foldl_take {n : Nat} (at_ : Nat) (f : List (List Pr)) {j : Nat} (hj : j < n) : ((rngI n).take (j + 1)).foldl (st1 at_) f = st1 at_ (((rngI n).take j).foldl (st1 at_) f) j := by
  have hl : j < (rngI n).length := by simpa [rngI] using hj
  rw [List.take_succ_eq_append_getElem hl, List.foldl_append]
  have : (rngI n)[j] = (j : Int) := by simp [rngI]
  rw [this]
  rfl
theorem rng_get {n j : Nat} {d : D} (h : ((List.range n).map fun (i : Nat) => D.int i)[j]? = some d) : j < n ∧ d = .int j := by
  rw [List.getElem?_map] at h
  cases k : (List.range n)[j]? with
  | none => rw [k] at h; cases h
  | some x =>
    rw [k] at h
    cases h
    obtain ⟨k1, k2⟩ := List.getElem?_eq_some_iff.mp k
    simp at k1 k2
    subst k2
    exact ⟨k1, rfl⟩
/-! ### the law's walk -/
noncomputable def ls_p (T : Fn) : FS := (ifS (notT (truF (clF anyD (consA (compF true [6, 7] (seqI (binF ixD (varF 2) (varF 3))) (gtF (gconsF (gnF 6) (gconsF (gnF 7) gnilF))) yesT (binF (oBl eqD) (varF 6) (varF 4))) nilA)))) (seqF (setF 5 (caF T (consA (binF ixD (varF 2) (varF 3)) (consA (varF 4) nilA))))
    (ifS (cmpT (inD true) (varF 5) (varF 2)) (exprF (mtF 2 appM (consA (varF 5) nilA))) nxF)) nxF)
noncomputable def ls_b (T : Fn) : FS := (seqF (forF (rg1I (consA (varF 0) nilA)) (gnF 4) (ifS (notT (truF (clF anyD (consA (compF true [6, 7] (seqI (binF ixD (varF 2) (varF 3))) (gtF (gconsF (gnF 6) (gconsF (gnF 7) gnilF))) yesT (binF (oBl eqD) (varF 6) (varF 4))) nilA)))) (seqF (setF 5 (caF T (consA (binF ixD (varF 2) (varF 3)) (consA (varF 4) nilA))))
    (ifS (cmpT (inD true) (varF 5) (varF 2)) (exprF (mtF 2 appM (consA (varF 5) nilA))) nxF)) nxF))
    (setF 3 (binF addD (varF 3) (shF (.int 1)))))
noncomputable def ls_t : FT := (andT (cmpT (cm2 fun i j => decide (i < j)) (varF 3) (clF lenD (consA (varF 2) nilA))) (cmpT (cm2 fun i j => decide (i < j)) (clF lenD (consA (varF 2) nilA)) (shF (.int 401))))
theorem ix_f {α : Type} {e : α → D} {f : List α} {at_ : Nat} {c : α} (h : f[at_]? = some c) : ixD (.lst (f.map e)) (.int (at_ : Nat)) = some (.sh (e c)) :=
  ix_lst (by omega) (by simpa using h)
theorem ls_place {T : Fn} {w1 : D} {n : Int} {f : List (List Pr)} {at_ : Nat} {c : List Pr} (hc : f[at_]? = some c) (hl : f.length < 1000000) (hcl : c.length ≤ 1000000) {p : Int} (hT : snk p c = true → T [eL c, .int p] = some (.ok (.sh (eL (trn p c))))) {e5 : Ent} (o5 : opn (some e5)) :
    ∃ e5', opn (some e5') ∧ ls_p T [.sh (.int n), .sh w1, .own (.lst (f.map eL)), .sh (.int (at_ : Nat)), .sh (.int p), e5, .no, .no] = some (.nx [.sh (.int n), .sh w1, .own (.lst ((st1 at_ f p).map eL)), .sh (.int (at_ : Nat)), .sh (.int p), e5', .no, .no]) := by
  have ix : binF ixD (varF 2) (varF 3) [.sh (.int n), .sh w1, .own (.lst (f.map eL)), .sh (.int (at_ : Nat)), .sh (.int p), e5, .no, .no] = some (.ok (.sh (eL c)) [.sh (.int n), .sh w1, .own (.lst (f.map eL)), .sh (.int (at_ : Nat)), .sh (.int p), e5, .no, .no]) :=
    bin_ok (da := .lst (f.map eL)) (db := .int (at_ : Nat)) rfl rfl rfl rfl (ix_f hc)
  have t1 := snk_test (env := [.sh (.int n), .sh w1, .own (.lst (f.map eL)), .sh (.int (at_ : Nat)), .sh (.int p), e5, .no, .no]) (it := seqI (binF ixD (varF 2) (varF 3))) (ops := []) (c := c) (p := p) (v := 4) (j := 6) (k := 7) (seqI_ok ix (.inr rfl)) rfl (.inl rfl) (.inl rfl) (by decide) (by decide) (by decide) hcl
  cases hs : snk p c with
  | false =>
    rw [hs] at t1
    refine ⟨e5, o5, if_f t1 ?_⟩
    unfold st1
    rw [hc]
    simp [hs, nxF]
  | true =>
    rw [hs] at t1
    have s1 : setF 5 (caF T (consA (binF ixD (varF 2) (varF 3)) (consA (varF 4) nilA))) [.sh (.int n), .sh w1, .own (.lst (f.map eL)), .sh (.int (at_ : Nat)), .sh (.int p), e5, .no, .no] = some (.nx [.sh (.int n), .sh w1, .own (.lst (f.map eL)), .sh (.int (at_ : Nat)), .sh (.int p), .sh (eL (trn p c)), .no, .no]) :=
      set_ok (ca_ok (ds := [eL c, .int p]) (consA_ok ix (consA_ok rfl nilA_ok)) rfl (hT hs) (free_eL _)) (put_sh (i := 5) o5)
    have hin := in_eLs true (trn p c) f
    by_cases hm : trn p c ∈ f
    · rw [decide_eq_true hm] at hin
      refine ⟨.sh (eL (trn p c)), .inr ⟨_, rfl⟩, if_t t1 (seq_ok s1 (if_f (cmp_ok (da := eL (trn p c)) (db := .lst (f.map eL)) rfl rfl rfl rfl hin) ?_))⟩
      unfold st1
      rw [hc]
      simp [hs, hm, nxF]
    · rw [decide_eq_false hm] at hin
      refine ⟨.sh (eL (trn p c)), .inr ⟨_, rfl⟩, if_t t1 (seq_ok s1 (if_t (cmp_ok (da := eL (trn p c)) (db := .lst (f.map eL)) rfl rfl rfl rfl hin) ?_))⟩
      have hlf : (f.map eL).length < 1000000 := by simpa using hl
      rw [app_stmt (xs := f.map eL) (r := .sh (eL (trn p c))) (d := eL (trn p c)) rfl rfl rfl rfl hlf]
      unfold st1
      rw [hc]
      simp [hs, hm, lstSet]
theorem ls_turn {T : Fn} {w1 : D} {n : Nat} (hn : n ≤ 8) {f : List (List Pr)} {at_ : Nat} {c : List Pr} (hc : f[at_]? = some c) (hl : (stp n f at_).length < 1000000) (hcl : c.length ≤ 1000000) (hT : ∀ p, snk p c = true → T [eL c, .int p] = some (.ok (.sh (eL (trn p c))))) {e4 e5 : Ent} (o4 : opn (some e4)) (o5 : opn (some e5)) :
    ∃ e4' e5', opn (some e4') ∧ opn (some e5') ∧ ls_b T [.sh (.int n), .sh w1, .own (.lst (f.map eL)), .sh (.int (at_ : Nat)), e4, e5, .no, .no] = some (.nx [.sh (.int n), .sh w1, .own (.lst ((stp n f at_).map eL)), .sh (.int (at_ + 1 : Nat)), e4', e5', .no, .no]) := by
  have pre : ∀ j, f <+: ((rngI n).take j).foldl (st1 at_) f := fun j => foldl_pre at_ _ f
  have pre2 : ∀ j, ((rngI n).take j).foldl (st1 at_) f <+: stp n f at_ := fun j => by
    unfold stp
    conv => rhs; rw [← List.take_append_drop j (rngI n), List.foldl_append]
    exact foldl_pre at_ _ _
  obtain ⟨e', h1, e4', e5', o4', o5', rfl⟩ := for_run (g := gnF 4) (b := ls_p T) (fun j e => ∃ e4 e5, opn (some e4) ∧ opn (some e5) ∧ e = [.sh (.int n), .sh w1, .own (.lst ((((rngI n).take j).foldl (st1 at_) f).map eL)), .sh (.int (at_ : Nat)), e4, e5, .no, .no]) ((List.range n).map fun (i : Nat) => D.int i) 0 [.sh (.int n), .sh w1, .own (.lst (f.map eL)), .sh (.int (at_ : Nat)), e4, e5, .no, .no] (fun j d hd e he => by
    rw [Nat.zero_add] at he ⊢
    obtain ⟨e4, e5, o4, o5, rfl⟩ := he
    obtain ⟨hj, rfl⟩ := rng_get hd
    obtain ⟨e5', o5', h⟩ := ls_place (T := T) (w1 := w1) (n := n) (f := ((rngI n).take j).foldl (st1 at_) f) (at_ := at_) (c := c) (get_pre (pre j) hc) (by have := len_pre (pre2 j); omega) hcl (p := (j : Int)) (hT _) o5
    refine ⟨_, _, gn_ok (i := 4) o4, h, .sh (.int j), e5', .inr ⟨_, rfl⟩, o5', ?_⟩
    rw [foldl_take at_ f hj]) ⟨e4, e5, o4, o5, rfl⟩
  have e0 : ((rngI n).take (0 + ((List.range n).map fun (i : Nat) => D.int i).length)).foldl (st1 at_) f = stp n f at_ := by
    unfold stp
    rw [List.take_of_length_le (by simp [rngI])]
  rw [e0] at h1
  refine ⟨e4', e5', o4', o5', seq_ok (for_ok (rg1_ok (by omega) rfl) rfl h1) ?_⟩
  refine set_ok (r := .sh (.int (at_ + 1 : Nat))) (bin_ok (da := .int (at_ : Nat)) (db := .int 1) rfl rfl rfl rfl ?_) rfl
  rw [addI]
  rfl
theorem bfs_le {n : Nat} {l : List Pr} : ∀ (k : Nat) {f : List (List Pr)} {at_ : Nat}, Bi n l f → (bfs n k f at_).length ≤ 2 ^ l.length
  | 0, f, _, h => h.len
  | k + 1, f, at_, h => by
    unfold bfs
    split
    · exact bfs_le k (h.stp at_)
    · exact h.len
theorem law_shapes_run {T : Fn} {n : Nat} (hn : 1 ≤ n ∧ n ≤ 4) {l : List Pr} (w : WebP n l) (h5 : l.length ≤ 5) (hT : ∀ c p, snk p c = true → c.length ≤ 1000000 → T [eL c, .int p] = some (.ok (.sh (eL (trn p c))))) :
    runF 2 8 (seqF (parF 2 3 (lstF (consA (clF tupleD (consA (clF sortD (consA (varF 1) nilA)) nilA)) nilA)) (shF (.int 0)))
    (seqF (whileF (andT (cmpT (cm2 fun i j => decide (i < j)) (varF 3) (clF lenD (consA (varF 2) nilA))) (cmpT (cm2 fun i j => decide (i < j)) (clF lenD (consA (varF 2) nilA)) (shF (.int 401)))) (seqF (forF (rg1I (consA (varF 0) nilA)) (gnF 4) (ifS (notT (truF (clF anyD (consA (compF true [6, 7] (seqI (binF ixD (varF 2) (varF 3))) (gtF (gconsF (gnF 6) (gconsF (gnF 7) gnilF))) yesT (binF (oBl eqD) (varF 6) (varF 4))) nilA)))) (seqF (setF 5 (caF T (consA (binF ixD (varF 2) (varF 3)) (consA (varF 4) nilA))))
    (ifS (cmpT (inD true) (varF 5) (varF 2)) (exprF (mtF 2 appM (consA (varF 5) nilA))) nxF)) nxF))
    (setF 3 (binF addD (varF 3) (shF (.int 1))))))
    (retF (varF 2)))) [.int n, eL l] = some (.ok (.fr (.lst ((shapes n l).map eL)))) := by
  have p2 : 2 ^ l.length ≤ 32 := by
    have : 2 ^ l.length ≤ 2 ^ 5 := Nat.pow_le_pow_right (by omega) h5
    exact this
  have s0 := sort_tup (l := l) (by omega)
  have s1 : parF 2 3 (lstF (consA (clF tupleD (consA (clF sortD (consA (varF 1) nilA)) nilA)) nilA)) (shF (.int 0)) [.sh (.int n), .sh (eL l), .no, .no, .no, .no, .no, .no] = some (.nx [.sh (.int n), .sh (eL l), .own (.lst ([srt l].map eL)), .sh (.int (0 : Nat)), .no, .no, .no, .no]) := by
    refine par_ok (lst_ok (ds := [eL (srt l)]) (consA_ok (r := .sh (eL (srt l))) (cl_ok (consA_ok (cl_ok (consA_ok rfl nilA_ok) rfl s0) nilA_ok) rfl rfl) nilA_ok) rfl) rfl ?_
    rfl
  have b0 : Bi n l [srt l] := ⟨by simp, fun x hx => by rw [List.mem_singleton.mp hx]; exact ⟨l, flips_self l, rfl⟩, fun x hx => by rw [List.mem_singleton.mp hx]; exact .refl _, rfl⟩
  obtain ⟨e', hw, e4, e5, at_, rfl⟩ := while_run (t := ls_t) (b := ls_b T) (S := fun e => ∃ e4 e5 at_, e = [.sh (.int n), .sh (eL l), .own (.lst ((shapes n l).map eL)), .sh (.int (at_ : Nat)), e4, e5, .no, .no])
    (fun k e => ∃ f at_ e4 e5, opn (some e4) ∧ opn (some e5) ∧ e = [.sh (.int n), .sh (eL l), .own (.lst (f.map eL)), .sh (.int (at_ : Nat)), e4, e5, .no, .no] ∧ Bi n l f ∧ at_ ≤ f.length ∧ k + at_ = 2 ^ l.length + 1 ∧ bfs n k f at_ = shapes n l) (fun k e hr => by
      obtain ⟨f, at_, e4, e5, o4, o5, rfl, hb, ha, hk, hsh⟩ := hr
      have fl := hb.len
      have t2 : decide (((f.map eL).length : Nat) < (401 : Int)) = true := decide_eq_true (by simp; omega)
      by_cases hlt : at_ < f.length
      · right
        have hc := List.getElem?_eq_getElem hlt
        have cm : f[at_] ∈ f := List.getElem_mem hlt
        have hcw := (hb.rc _ cm).web w.srt
        cases k with
        | zero => omega
        | succ k =>
          have sb := (hb.stp at_).len
          obtain ⟨e4', e5', o4', o5', h⟩ := ls_turn (T := T) (w1 := eL l) (n := n) (by omega) hc (by omega) (Nat.le_trans hcw.len (by decide)) (fun p hs => hT _ p hs (Nat.le_trans hcw.len (by decide))) o4 o5
          have pre : f <+: stp n f at_ := foldl_pre at_ _ f
          refine ⟨[.sh (.int n), .sh (eL l), .own (.lst (f.map eL)), .sh (.int (at_ : Nat)), e4, e5, .no, .no], _, k, ?_, h, by omega, _, _, e4', e5', o4', o5', rfl, hb.stp at_, by have := len_pre pre; omega, by omega, ?_⟩
          · refine and_t (cmp_ok (da := .int (at_ : Nat)) (db := .int ((f.map eL).length : Nat)) rfl (cl_ok (consA_ok rfl nilA_ok) rfl (lenL _)) rfl rfl ?_) (cmp_ok (da := .int ((f.map eL).length : Nat)) (db := .int 401) (cl_ok (consA_ok rfl nilA_ok) rfl (lenL _)) rfl rfl rfl ?_)
            · show some (decide ((at_ : Int) < ((f.map eL).length : Nat))) = some true
              rw [decide_eq_true (by simpa using hlt)]
            · exact congrArg some t2
          · rw [← hsh]
            show _ = (if at_ < f.length then bfs n k (stp n f at_) (at_ + 1) else f)
            rw [if_pos hlt]
      · left
        refine ⟨_, and_f (cmp_ok (da := .int (at_ : Nat)) (db := .int ((f.map eL).length : Nat)) rfl (cl_ok (consA_ok rfl nilA_ok) rfl (lenL _)) rfl rfl ?_), e4, e5, at_, ?_⟩
        · show some (decide ((at_ : Int) < ((f.map eL).length : Nat))) = some false
          rw [decide_eq_false (by simpa using hlt)]
        · have : f = shapes n l := by
            rw [← hsh]
            cases k with
            | zero => rfl
            | succ k =>
              show _ = (if at_ < f.length then bfs n k (stp n f at_) (at_ + 1) else f)
              rw [if_neg hlt]
          rw [this])
    (n := 2 ^ l.length + 1) (e := [.sh (.int n), .sh (eL l), .own (.lst ([srt l].map eL)), .sh (.int (0 : Nat)), .no, .no, .no, .no]) ⟨[srt l], 0, .no, .no, .inl rfl, .inl rfl, rfl, b0, by simp, rfl, rfl⟩
  exact runF_rt rfl (seq_ok s1 (seq_ok hw (ret_ok rfl))) rfl
theorem ok_law_shapes {n : Nat} (hn : 1 ≤ n ∧ n ≤ 4) {l : List Pr} (w : WebP n l) (h5 : l.length ≤ 5) : f__law_shapes [.int n, eL l] = some (.ok (.fr (.lst ((shapes n l).map eL)))) :=
  law_shapes_run hn w h5 fun c p hs hl => ok_law_turned hs hl
end K94
namespace K94
open PySem PySem.Spec L2 Ev Ma
/-! ### turned_shapes -/
noncomputable def ts_p (I : Fm) : FS := (ifS (notT (truF (clF anyD (consA (compF true [7, 8] (seqI (unF (fldD 0 1) (varF 4))) (gtF (gconsF (gnF 7) (gconsF (gnF 8) gnilF))) yesT (binF (oBl eqD) (varF 7) (varF 5))) nilA)))) (seqF (setF 6 (mkF 0 I (consA (unF (fldD 0 0) (varF 0)) (consA (clF tupleD (consA (clF sortD (consA (compF true [7, 8] (seqI (unF (fldD 0 1) (varF 4))) (gtF (gconsF (gnF 7) (gconsF (gnF 8) gnilF))) yesT (ifF (cmpT eqD (varF 8) (varF 5)) (tupF (consA (varF 8) (consA (varF 7) nilA))) (tupF (consA (varF 7) (consA (varF 8) nilA))))) nilA)) nilA)) nilA))))
    (ifS (cmpT (inIns 0 2 true) (varF 6) (varF 2)) (seqF (ifS (cmpT eqD (clF lenD (consA (varF 2) nilA)) (shF (.int 400))) (fun _ => none) nxF)
    (exprF (mtF 2 appM (consA (varF 6) nilA)))) nxF)) nxF)
noncomputable def ts_b (I : Fm) : FS := (seqF (setF 4 (binF ixD (varF 2) (varF 3)))
    (seqF (forF (rg1I (consA (unF (fldD 0 0) (varF 0)) nilA)) (gnF 5) (ifS (notT (truF (clF anyD (consA (compF true [7, 8] (seqI (unF (fldD 0 1) (varF 4))) (gtF (gconsF (gnF 7) (gconsF (gnF 8) gnilF))) yesT (binF (oBl eqD) (varF 7) (varF 5))) nilA)))) (seqF (setF 6 (mkF 0 I (consA (unF (fldD 0 0) (varF 0)) (consA (clF tupleD (consA (clF sortD (consA (compF true [7, 8] (seqI (unF (fldD 0 1) (varF 4))) (gtF (gconsF (gnF 7) (gconsF (gnF 8) gnilF))) yesT (ifF (cmpT eqD (varF 8) (varF 5)) (tupF (consA (varF 8) (consA (varF 7) nilA))) (tupF (consA (varF 7) (consA (varF 8) nilA))))) nilA)) nilA)) nilA))))
    (ifS (cmpT (inIns 0 2 true) (varF 6) (varF 2)) (seqF (ifS (cmpT eqD (clF lenD (consA (varF 2) nilA)) (shF (.int 400))) (fun _ => none) nxF)
    (exprF (mtF 2 appM (consA (varF 6) nilA)))) nxF)) nxF))
    (augF 3 (shF (.int 1)))))
noncomputable def ts_t : FT := (cmpT (cm2 fun i j => decide (i < j)) (varF 3) (clF lenD (consA (varF 2) nilA)))
theorem tn_comp {env : List Ent} {n : Int} {c : List Pr} {p : Int} (h4 : env[4]? = some (.sh (webD n c))) (h5 : env[5]? = some (.sh (.int p))) (h7 : opn env[7]?) (h8 : opn env[8]?) (hl : c.length ≤ 1000000) :
    compF true [7, 8] (seqI (unF (fldD 0 1) (varF 4))) (gtF (gconsF (gnF 7) (gconsF (gnF 8) gnilF))) yesT (ifF (cmpT eqD (varF 8) (varF 5)) (tupF (consA (varF 8) (consA (varF 7) nilA))) (tupF (consA (varF 7) (consA (varF 8) nilA)))) env = some (.ok (.fr (.lst ((c.map (tn p)).map eA))) env) := by
  have hit : seqI (unF (fldD 0 1) (varF 4)) env = some (.ok [] (c.map eA) env) := seqI_ok (r := .sh (eL c)) (un_ok (da := webD n c) (var_sh h4) rfl rfl) (.inr rfl)
  have hc := comp2 (j := 7) (k := 8) (by decide) (env := env) (tt := yesT) (fe := ifF (cmpT eqD (varF 8) (varF 5)) (tupF (consA (varF 8) (consA (varF 7) nilA))) (tupF (consA (varF 7) (consA (varF 8) nilA)))) (x := fun d => .int (fst2 d)) (y := fun d => .int (snd2 d)) (t := fun _ => true)
    (h := fun d => eA (tn p (fst2 d, snd2 d))) hit h7 h8 (by simpa using hl) (fun d hd => ?_)
  · rw [filter_true, List.map_map] at hc
    rw [hc, List.map_map]
    rfl
  · obtain ⟨q, hq, rfl⟩ := List.mem_map.mp hd
    refine ⟨rfl, rfl, fun _ => ⟨_, ?_, .inl rfl⟩⟩
    have kl : 8 < env.length := by rcases h8 with h | ⟨d, h⟩ <;> exact (List.getElem?_eq_some_iff.mp h).1
    have jl : 7 < env.length := by rcases h7 with h | ⟨d, h⟩ <;> exact (List.getElem?_eq_some_iff.mp h).1
    generalize he : (env.set 7 (.sh (.int (fst2 (eA q))))).set 8 (.sh (.int (snd2 (eA q)))) = env'
    have e5 : varF 5 env' = some (.ok (.sh (.int p)) env') := var_sh (by rw [← he, List.getElem?_set_ne (by decide), List.getElem?_set_ne (by decide)]; exact h5)
    have e7 : varF 7 env' = some (.ok (.sh (.int q.1)) env') := var_sh (by rw [← he, List.getElem?_set_ne (by decide), List.getElem?_set_self jl]; rfl)
    have e8 : varF 8 env' = some (.ok (.sh (.int q.2)) env') := var_sh (by rw [← he, List.getElem?_set_self (by simpa using kl)]; rfl)
    have hq2 := eqD_int q.2 p
    by_cases e : q.2 = p
    · rw [decide_eq_true e] at hq2
      have t : tn p q = (q.2, q.1) := if_pos e
      refine ife_t (cmp_ok (da := .int q.2) (db := .int p) e8 e5 rfl rfl hq2) ?_
      rw [tup_ok (ds := [.int q.2, .int q.1]) (consA_ok e8 (consA_ok e7 nilA_ok)) rfl]
      show some (Ou.ok (.sh (eA (q.2, q.1))) _) = some (Ou.ok (.sh (eA (tn p q))) _)
      rw [t]
    · rw [decide_eq_false e] at hq2
      have t : tn p q = q := if_neg e
      refine ife_f (cmp_ok (da := .int q.2) (db := .int p) e8 e5 rfl rfl hq2) ?_
      rw [tup_ok (ds := [.int q.1, .int q.2]) (consA_ok e7 (consA_ok e8 nilA_ok)) rfl]
      show some (Ou.ok (.sh (eA q)) _) = some (Ou.ok (.sh (eA (tn p q))) _)
      rw [t]
theorem ts_place {I : Fm} {n : Int} {w0 : List Pr} {w1 : D} {f : List (List Pr)} {at_ : Nat} {c : List Pr} (hc : f[at_]? = some c) (hl : f.length < 400) (hcl : c.length ≤ 1000000) {p : Int} (hT : snk p c = true → I [.int n, eL (trn p c)] = some [.int n, eL (trn p c)]) {e6 : Ent} (o6 : opn (some e6)) :
    ∃ e6', opn (some e6') ∧ ts_p I [.sh (webD n w0), .sh w1, .own (.lst (f.map (webD n))), .sh (.int (at_ : Nat)), .sh (webD n c), .sh (.int p), e6, .no, .no] = some (.nx [.sh (webD n w0), .sh w1, .own (.lst ((st1 at_ f p).map (webD n))), .sh (.int (at_ : Nat)), .sh (webD n c), .sh (.int p), e6', .no, .no]) := by
  have t1 := snk_test (env := [.sh (webD n w0), .sh w1, .own (.lst (f.map (webD n))), .sh (.int (at_ : Nat)), .sh (webD n c), .sh (.int p), e6, .no, .no]) (it := seqI (unF (fldD 0 1) (varF 4))) (ops := []) (c := c) (p := p) (v := 5) (j := 7) (k := 8) (seqI_ok (r := .sh (eL c)) (un_ok (da := webD n c) rfl rfl rfl) (.inr rfl)) rfl (.inl rfl) (.inl rfl) (by decide) (by decide) (by decide) hcl
  cases hs : snk p c with
  | false =>
    rw [hs] at t1
    refine ⟨e6, o6, if_f t1 ?_⟩
    unfold st1
    rw [hc]
    simp [hs, nxF]
  | true =>
    rw [hs] at t1
    have k1 := tn_comp (env := [.sh (webD n w0), .sh w1, .own (.lst (f.map (webD n))), .sh (.int (at_ : Nat)), .sh (webD n c), .sh (.int p), e6, .no, .no]) rfl rfl (.inl rfl) (.inl rfl) hcl
    have k2 := sort_lst (l := c.map (tn p)) (by simpa using hcl)
    have hM := mk_ok (cl := 0) (f := I) (env := [.sh (webD n w0), .sh w1, .own (.lst (f.map (webD n))), .sh (.int (at_ : Nat)), .sh (webD n c), .sh (.int p), e6, .no, .no]) (ds := [.int n, eL (trn p c)]) (fl := [.int n, eL (trn p c)]) (consA_ok (r := .sh (.int n)) (un_ok (op := fldD 0 0) (fa := varF 0) (ra := .sh (webD n w0)) (da := webD n w0) rfl rfl rfl) (consA_ok (r := .sh (eL (trn p c))) (cl_ok (f := tupleD) (consA_ok (cl_ok (f := sortD) (consA_ok k1 nilA_ok) rfl k2) nilA_ok) rfl rfl) nilA_ok)) rfl (hT hs)
    have s1 := set_ok (i := 6) hM (put_sh (i := 6) o6)
    have hin := in_webs true n (trn p c) f
    by_cases hm : trn p c ∈ f
    · rw [decide_eq_true hm] at hin
      refine ⟨.sh (webD n (trn p c)), .inr ⟨_, rfl⟩, if_t t1 (seq_ok s1 (if_f (cmp_ok (da := webD n (trn p c)) (db := .lst (f.map (webD n))) rfl rfl rfl rfl hin) ?_))⟩
      unfold st1
      rw [hc]
      simp [hs, hm, nxF]
    · rw [decide_eq_false hm] at hin
      have ne : eqD (.int ((f.map (webD n)).length : Nat)) (.int 400) = some false := by
        rw [eqD_int, decide_eq_false]
        simp
        omega
      refine ⟨.sh (webD n (trn p c)), .inr ⟨_, rfl⟩, if_t t1 (seq_ok s1 (if_t (cmp_ok (da := webD n (trn p c)) (db := .lst (f.map (webD n))) rfl rfl rfl rfl hin) (seq_ok (if_f (cmp_ok (da := .int ((f.map (webD n)).length : Nat)) (db := .int 400) (cl_ok (consA_ok rfl nilA_ok) rfl (lenL _)) rfl rfl rfl ne) rfl) ?_)))⟩
      have hlf : (f.map (webD n)).length < 1000000 := by simp; omega
      rw [app_stmt (xs := f.map (webD n)) (r := .sh (webD n (trn p c))) (d := webD n (trn p c)) rfl rfl rfl rfl hlf]
      unfold st1
      rw [hc]
      simp [hs, hm, lstSet]
theorem aug_ok {i : Nat} {a b : Int} {fe : F} {env e1 e2 : List Ent} (h0 : env[i]? = some (.sh (.int a))) (h1 : fe env = some (.ok (.sh (.int b)) e1)) (h2 : put e1 i (.sh (.int (a + b))) = some e2) : augF i fe env = some (.nx e2) := by
  unfold augF
  rw [h0]
  dsimp only
  rw [h1, bES_ok]
  show (put e1 i (.sh (.int (a + b)))).map So.nx = _
  rw [h2]
  rfl
theorem ts_turn {I : Fm} {n : Nat} (hn : n ≤ 8) {w0 : List Pr} {w1 : D} {f : List (List Pr)} {at_ : Nat} {c : List Pr} (hc : f[at_]? = some c) (hl : (stp n f at_).length < 400) (hcl : c.length ≤ 1000000) (hT : ∀ p, snk p c = true → I [.int n, eL (trn p c)] = some [.int n, eL (trn p c)]) {e4 e5 e6 : Ent} (o4 : opn (some e4)) (o5 : opn (some e5)) (o6 : opn (some e6)) :
    ∃ e4' e5' e6', opn (some e4') ∧ opn (some e5') ∧ opn (some e6') ∧ ts_b I [.sh (webD n w0), .sh w1, .own (.lst (f.map (webD n))), .sh (.int (at_ : Nat)), e4, e5, e6, .no, .no] = some (.nx [.sh (webD n w0), .sh w1, .own (.lst ((stp n f at_).map (webD n))), .sh (.int (at_ + 1 : Nat)), e4', e5', e6', .no, .no]) := by
  have pre : ∀ j, f <+: ((rngI n).take j).foldl (st1 at_) f := fun j => foldl_pre at_ _ f
  have pre2 : ∀ j, ((rngI n).take j).foldl (st1 at_) f <+: stp n f at_ := fun j => by
    unfold stp
    conv => rhs; rw [← List.take_append_drop j (rngI n), List.foldl_append]
    exact foldl_pre at_ _ _
  have s1 : setF 4 (binF ixD (varF 2) (varF 3)) [.sh (webD n w0), .sh w1, .own (.lst (f.map (webD n))), .sh (.int (at_ : Nat)), e4, e5, e6, .no, .no] = some (.nx [.sh (webD n w0), .sh w1, .own (.lst (f.map (webD n))), .sh (.int (at_ : Nat)), .sh (webD n c), e5, e6, .no, .no]) :=
    set_ok (bin_ok (da := .lst (f.map (webD n))) (db := .int (at_ : Nat)) rfl rfl rfl rfl (ix_f hc)) (put_sh (i := 4) o4)
  obtain ⟨e', h1, e5', e6', o5', o6', rfl⟩ := for_run (g := gnF 5) (b := ts_p I) (fun j e => ∃ e5 e6, opn (some e5) ∧ opn (some e6) ∧ e = [.sh (webD n w0), .sh w1, .own (.lst ((((rngI n).take j).foldl (st1 at_) f).map (webD n))), .sh (.int (at_ : Nat)), .sh (webD n c), e5, e6, .no, .no]) ((List.range n).map fun (i : Nat) => D.int i) 0 [.sh (webD n w0), .sh w1, .own (.lst (f.map (webD n))), .sh (.int (at_ : Nat)), .sh (webD n c), e5, e6, .no, .no] (fun j d hd e he => by
    rw [Nat.zero_add] at he ⊢
    obtain ⟨e5, e6, o5, o6, rfl⟩ := he
    obtain ⟨hj, rfl⟩ := rng_get hd
    obtain ⟨e6', o6', h⟩ := ts_place (I := I) (w0 := w0) (w1 := w1) (n := n) (f := ((rngI n).take j).foldl (st1 at_) f) (at_ := at_) (c := c) (get_pre (pre j) hc) (by have := len_pre (pre2 j); omega) hcl (p := (j : Int)) (hT _) o6
    refine ⟨_, _, gn_ok (i := 5) o5, h, .sh (.int j), e6', .inr ⟨_, rfl⟩, o6', ?_⟩
    rw [foldl_take at_ f hj]) ⟨e5, e6, o5, o6, rfl⟩
  have e0 : ((rngI n).take (0 + ((List.range n).map fun (i : Nat) => D.int i).length)).foldl (st1 at_) f = stp n f at_ := by
    unfold stp
    rw [List.take_of_length_le (by simp [rngI])]
  rw [e0] at h1
  exact ⟨.sh (webD n c), e5', e6', .inr ⟨_, rfl⟩, o5', o6', seq_ok s1 (seq_ok (for_ok (rg1_ok (by omega) rfl) rfl h1) (aug_ok rfl rfl rfl))⟩
theorem turned_run {I : Fm} {n : Nat} (hn : 1 ≤ n ∧ n ≤ 4) {l : List Pr} (w : WebP n l) (h5 : l.length ≤ 5) (hI : ∀ m, WebP n m → I [.int n, eL m] = some [.int n, eL m]) :
    runF 1 9 (seqF (setF 1 (mkF 0 I (consA (unF (fldD 0 0) (varF 0)) (consA (clF tupleD (consA (clF sortD (consA (unF (fldD 0 1) (varF 0)) nilA)) nilA)) nilA))))
    (seqF (parF 2 3 (lstF (consA (varF 1) nilA)) (shF (.int 0)))
    (seqF (whileF (cmpT (cm2 fun i j => decide (i < j)) (varF 3) (clF lenD (consA (varF 2) nilA))) (seqF (setF 4 (binF ixD (varF 2) (varF 3)))
    (seqF (forF (rg1I (consA (unF (fldD 0 0) (varF 0)) nilA)) (gnF 5) (ifS (notT (truF (clF anyD (consA (compF true [7, 8] (seqI (unF (fldD 0 1) (varF 4))) (gtF (gconsF (gnF 7) (gconsF (gnF 8) gnilF))) yesT (binF (oBl eqD) (varF 7) (varF 5))) nilA)))) (seqF (setF 6 (mkF 0 I (consA (unF (fldD 0 0) (varF 0)) (consA (clF tupleD (consA (clF sortD (consA (compF true [7, 8] (seqI (unF (fldD 0 1) (varF 4))) (gtF (gconsF (gnF 7) (gconsF (gnF 8) gnilF))) yesT (ifF (cmpT eqD (varF 8) (varF 5)) (tupF (consA (varF 8) (consA (varF 7) nilA))) (tupF (consA (varF 7) (consA (varF 8) nilA))))) nilA)) nilA)) nilA))))
    (ifS (cmpT (inIns 0 2 true) (varF 6) (varF 2)) (seqF (ifS (cmpT eqD (clF lenD (consA (varF 2) nilA)) (shF (.int 400))) (fun _ => none) nxF)
    (exprF (mtF 2 appM (consA (varF 6) nilA)))) nxF)) nxF))
    (augF 3 (shF (.int 1))))))
    (retF (varF 2))))) [webD n l] = some (.ok (.fr (.lst ((shapes n l).map (webD n))))) := by
  have p2 : 2 ^ l.length ≤ 32 := by
    have : 2 ^ l.length ≤ 2 ^ 5 := Nat.pow_le_pow_right (by omega) h5
    exact this
  have s0 := sort_tup (l := l) (by omega)
  have hM := mk_ok (cl := 0) (f := I) (env := [.sh (webD n l), .no, .no, .no, .no, .no, .no, .no, .no]) (ds := [.int n, eL (srt l)]) (fl := [.int n, eL (srt l)]) (consA_ok (r := .sh (.int n)) (un_ok (op := fldD 0 0) (fa := varF 0) (ra := .sh (webD n l)) (da := webD n l) rfl rfl rfl) (consA_ok (r := .sh (eL (srt l))) (cl_ok (f := tupleD) (consA_ok (cl_ok (f := sortD) (consA_ok (un_ok (op := fldD 0 1) (fa := varF 0) (ra := .sh (webD n l)) (da := webD n l) rfl rfl rfl) nilA_ok) rfl s0) nilA_ok) rfl rfl) nilA_ok)) rfl (hI _ w.srt)
  have s1 := set_ok (i := 1) (e2 := [.sh (webD n l), .sh (webD n (srt l)), .no, .no, .no, .no, .no, .no, .no]) hM rfl
  have s2 : parF 2 3 (lstF (consA (varF 1) nilA)) (shF (.int 0)) [.sh (webD n l), .sh (webD n (srt l)), .no, .no, .no, .no, .no, .no, .no] = some (.nx [.sh (webD n l), .sh (webD n (srt l)), .own (.lst ([srt l].map (webD n))), .sh (.int (0 : Nat)), .no, .no, .no, .no, .no]) := rfl
  have b0 : Bi n l [srt l] := ⟨by simp, fun x hx => by rw [List.mem_singleton.mp hx]; exact ⟨l, flips_self l, rfl⟩, fun x hx => by rw [List.mem_singleton.mp hx]; exact .refl _, rfl⟩
  obtain ⟨e', hw, e4, e5, e6, at_, rfl⟩ := while_run (t := ts_t) (b := ts_b I) (S := fun e => ∃ e4 e5 e6 at_, e = [.sh (webD n l), .sh (webD n (srt l)), .own (.lst ((shapes n l).map (webD n))), .sh (.int (at_ : Nat)), e4, e5, e6, .no, .no])
    (fun k e => ∃ f at_ e4 e5 e6, opn (some e4) ∧ opn (some e5) ∧ opn (some e6) ∧ e = [.sh (webD n l), .sh (webD n (srt l)), .own (.lst (f.map (webD n))), .sh (.int (at_ : Nat)), e4, e5, e6, .no, .no] ∧ Bi n l f ∧ at_ ≤ f.length ∧ k + at_ = 2 ^ l.length + 1 ∧ bfs n k f at_ = shapes n l) (fun k e hr => by
      obtain ⟨f, at_, e4, e5, e6, o4, o5, o6, rfl, hb, ha, hk, hsh⟩ := hr
      have fl := hb.len
      by_cases hlt : at_ < f.length
      · right
        have hc := List.getElem?_eq_getElem hlt
        have cm : f[at_] ∈ f := List.getElem_mem hlt
        have hcw := (hb.rc _ cm).web w.srt
        cases k with
        | zero => omega
        | succ k =>
          have sb := (hb.stp at_).len
          obtain ⟨e4', e5', e6', o4', o5', o6', h⟩ := ts_turn (I := I) (w0 := l) (w1 := webD n (srt l)) (n := n) (by omega) hc (by omega) (Nat.le_trans hcw.len (by decide)) (fun p hs => hI _ (trn_web hcw hs)) o4 o5 o6
          have pre : f <+: stp n f at_ := foldl_pre at_ _ f
          refine ⟨[.sh (webD n l), .sh (webD n (srt l)), .own (.lst (f.map (webD n))), .sh (.int (at_ : Nat)), e4, e5, e6, .no, .no], _, k, ?_, h, by omega, _, _, e4', e5', e6', o4', o5', o6', rfl, hb.stp at_, by have := len_pre pre; omega, by omega, ?_⟩
          · refine cmp_ok (da := .int (at_ : Nat)) (db := .int ((f.map (webD n)).length : Nat)) rfl (cl_ok (consA_ok rfl nilA_ok) rfl (lenL _)) rfl rfl ?_
            show some (decide ((at_ : Int) < ((f.map (webD n)).length : Nat))) = some true
            rw [decide_eq_true (by simpa using hlt)]
          · rw [← hsh]
            show _ = (if at_ < f.length then bfs n k (stp n f at_) (at_ + 1) else f)
            rw [if_pos hlt]
      · left
        refine ⟨_, cmp_ok (da := .int (at_ : Nat)) (db := .int ((f.map (webD n)).length : Nat)) rfl (cl_ok (consA_ok rfl nilA_ok) rfl (lenL _)) rfl rfl ?_, e4, e5, e6, at_, ?_⟩
        · show some (decide ((at_ : Int) < ((f.map (webD n)).length : Nat))) = some false
          rw [decide_eq_false (by simpa using hlt)]
        · have : f = shapes n l := by
            rw [← hsh]
            cases k with
            | zero => rfl
            | succ k =>
              show _ = (if at_ < f.length then bfs n k (stp n f at_) (at_ + 1) else f)
              rw [if_neg hlt]
          rw [this])
    (n := 2 ^ l.length + 1) (e := [.sh (webD n l), .sh (webD n (srt l)), .own (.lst ([srt l].map (webD n))), .sh (.int (0 : Nat)), .no, .no, .no, .no, .no]) ⟨[srt l], 0, .no, .no, .no, .inl rfl, .inl rfl, .inl rfl, rfl, b0, by simp, rfl, rfl⟩
  exact runF_rt rfl (seq_ok s1 (seq_ok s2 (seq_ok hw (ret_ok rfl)))) rfl
theorem ok_turned_shapes {n : Nat} (hn : 1 ≤ n ∧ n ≤ 4) {l : List Pr} (w : WebP n l) (h5 : l.length ≤ 5) : f_turned_shapes [webD n l] = some (.ok (.fr (.lst ((shapes n l).map (webD n))))) :=
  turned_run hn w h5 fun m hm => hm.init
end K94
namespace K94
open PySem PySem.Spec L2 Ev Ma
open PySem.W (keyToks keyToksAll alike alikeAll)
theorem tok_eL {a b : List Pr} (h : keyToks (pyOf (eL a)) = keyToks (pyOf (eL b))) : a = b := by
  rw [pyOf_eL, pyOf_eL] at h
  exact tok_pairs (by simpa [keyToks] using h)
theorem alike_pA (a b : Pr) : alike (pA a) (pA b) = true := rfl
theorem alike_eLs : ∀ (a b : List Pr), alikeAll (a.map pA) (b.map pA) = true
  | [], b => by simp [alikeAll]
  | x :: a, [] => by simp [alikeAll]
  | x :: a, y :: b => by
    simp only [List.map_cons, alikeAll, alike_pA, Bool.true_and]
    exact alike_eLs a b
theorem depth_pAs : ∀ a : List Pr, PyData.depthAll (a.map pA) ≤ 1
  | [] => by simp [PyData.depthAll]
  | x :: a => by
    have := depth_pAs a
    simp only [List.map_cons, PyData.depthAll, pA, PyData.depth]
    omega
theorem sortable_eLs {f : List (List Pr)} (h : (∀ x ∈ f, x ≠ []) ∨ f = [[]]) : sortable (f.map eL) = true := by
  unfold sortable
  rw [Bool.and_eq_true, Bool.and_eq_true]
  refine ⟨⟨?_, ?_⟩, ?_⟩
  · rw [List.all_map, List.all_eq_true]
    intro a _
    rw [Function.comp_apply, List.all_map, List.all_eq_true]
    intro b _
    rw [Function.comp_apply, pyOf_eL, pyOf_eL]
    simp only [alike]
    exact alike_eLs a b
  · rw [Bool.or_eq_true, Bool.or_eq_true]
    rcases h with h | h
    · left
      left
      rw [List.all_map, List.all_eq_true]
      intro a ha
      have := h a ha
      cases a with
      | nil => exact absurd rfl this
      | cons q a => rfl
    · right
      subst h
      rfl
  · rw [List.all_map, List.all_eq_true]
    intro a _
    rw [Function.comp_apply, pyOf_eL]
    have := depth_pAs a
    simp only [PyData.depth]
    exact decide_eq_true (by omega)
theorem sort_eLs {f : List (List Pr)} (h : (∀ x ∈ f, x ≠ []) ∨ f = [[]]) (hl : f.length ≤ 1000000) : sortD [.lst (f.map eL)] = some (.fr (.lst ((f.map eL).mergeSort leD))) := by
  unfold sortD
  dsimp only
  rw [if_pos ⟨by rw [toPys_ok (ds := f.map eL) (fun d hd => by
    obtain ⟨x, _, rfl⟩ := List.mem_map.mp hd
    rw [pyOf_eL, py_eL])]; rfl, sortable_eLs h, by simpa using hl⟩]
theorem eqD_same {a : D} (ha : tree a = true) (h1 : hi a ≤ 64) : eqD a a = some true := by
  obtain ⟨r, e, h⟩ := eqD_tree ha ha h1 h1
  rw [e, h.mpr rfl]
theorem trees_perm {a b : List D} (p : a.Perm b) (h : trees a = true) : trees b = true ∧ his b = his a := by
  induction p with
  | nil => exact ⟨h, rfl⟩
  | cons x _ ih =>
    obtain ⟨h1, h2⟩ := Bool.and_eq_true_iff.mp (show (tree x && trees _) = true by simpa [trees] using h)
    obtain ⟨i1, i2⟩ := ih h2
    exact ⟨by simp [trees, h1, i1], by simp only [his, i2]⟩
  | swap x y l =>
    simp only [trees, Bool.and_eq_true] at h
    exact ⟨by simp [trees, h.1, h.2.1, h.2.2], by simp only [his]; omega⟩
  | trans _ _ h1 h2 =>
    obtain ⟨a1, a2⟩ := h1 h
    obtain ⟨b1, b2⟩ := h2 a1
    exact ⟨b1, b2.trans a2⟩
theorem flips_length : ∀ {l m : List Pr}, m ∈ flips l → m.length = l.length
  | [], m, h => by rw [List.mem_singleton.mp h]
  | q :: l, m, h => by
    rcases List.mem_append.mp h with h | h
    · obtain ⟨x, hx, rfl⟩ := List.mem_map.mp h
      simp [flips_length hx]
    · obtain ⟨x, hx, rfl⟩ := List.mem_map.mp h
      simp [flips_length hx]
theorem shapes_len {n : Nat} {l x : List Pr} (h : x ∈ shapes n l) : x.length = l.length := by
  obtain ⟨m, h1, rfl⟩ := (shapes_ok n l).1.fs x h
  rw [(srt_perm m).length_eq, flips_length h1]
theorem shapes_nil (n : Nat) (l : List Pr) (h : l = []) : shapes n l = [[]] := by
  subst h
  have h1 := (shapes_ok n []).1.len
  have h2 := (shapes_ok n []).1.hd
  have e : srt [] = [] := (srt_perm []).eq_nil
  rw [e] at h2
  cases k : shapes n [] with
  | nil => rw [k] at h2; cases h2
  | cons a f =>
    rw [k] at h1 h2
    simp at h1 h2
    rw [h1, h2]
theorem shapes_sort {n : Nat} {l : List Pr} : (∀ x ∈ shapes n l, x ≠ []) ∨ shapes n l = [[]] := by
  by_cases h : l = []
  · exact .inr (shapes_nil n l h)
  · refine .inl fun x hx e => h ?_
    have := shapes_len hx
    rw [e] at this
    exact List.length_eq_zero_iff.mp this.symm
theorem free_eLs : ∀ f : List (List Pr), lstFrees (f.map eL) = true
  | [] => rfl
  | x :: f => by
    have := free_eLs f
    simp only [List.map_cons, lstFrees, free_eL, Bool.true_and]
    exact this
noncomputable def tr1 (S : Fn) : FS := (setF 2 (caF S (consA (varF 0) (consA (varF 1) nilA))))
noncomputable def tr2 (S : Fn) (I : Fm) : FS := (setF 3 (caF S (consA (mkF 0 I (consA (varF 0) (consA (varF 1) nilA))) nilA)))
noncomputable def tr3 : FS := (ifS (orT (notT (truF (unF (isiD "list") (varF 3)))) (cmpT neD (compF true [4] (seqI (varF 3)) (gnF 4) yesT (tupF (consA (unF (fldD 0 0) (varF 4)) (consA (unF (fldD 0 1) (varF 4)) nilA)))) (compF true [5] (seqI (varF 2)) (gnF 5) yesT (tupF (consA (varF 0) (consA (varF 5) nilA)))))) (retF (shF (.bl false))) nxF)
noncomputable def tr4 (S : Fn) : FS := (retF (orF (binF (oBl (cm2 fun i j => decide (j < i))) (clF lenD (consA (varF 2) nilA)) (shF (.int 24))) (binF (oBl eqD) (clF sortD (consA (compF true [4] (seqI (caF S (consA (binF ixD (varF 3) (negF (shF (.int 1)))) nilA))) (gnF 4) yesT (unF (fldD 0 1) (varF 4))) nilA)) (clF sortD (consA (varF 2) nilA)))))
theorem free_webs {n : Int} : ∀ {f : List (List Pr)}, f ≠ [] → lstFrees (f.map (webD n)) = false
  | [], h => absurd rfl h
  | x :: f, _ => rfl
theorem kit_list : kitB "list" "list" = some true := kit_tab4.2
theorem tr_run {S1 S2 : Fn} {I : Fm} {n : Nat} (hn : 1 ≤ n ∧ n ≤ 4) {l : List Pr} (w : WebP n l) (h5 : l.length ≤ 5) (hI : ∀ m, WebP n m → I [.int n, eL m] = some [.int n, eL m])
    (h1 : ∀ l, WebP n l → l.length ≤ 5 → S1 [.int n, eL l] = some (.ok (.fr (.lst ((shapes n l).map eL))))) (h2 : ∀ l, WebP n l → l.length ≤ 5 → S2 [webD n l] = some (.ok (.fr (.lst ((shapes n l).map (webD n)))))) :
    runF 2 6 (seqF (tr1 S1) (seqF (tr2 S2 I) (seqF tr3 (tr4 S2)))) [.int n, eL l] = some (.ok (.sh (.bl true))) := by
  have hb := (shapes_ok n l).1
  have p2 : 2 ^ l.length ≤ 32 := by
    have : 2 ^ l.length ≤ 2 ^ 5 := Nat.pow_le_pow_right (by omega) h5
    exact this
  have fl := hb.len
  have fne : shapes n l ≠ [] := fun e => by have := hb.hd; rw [e] at this; cases this
  have s1 : tr1 S1 [.sh (.int n), .sh (eL l), .no, .no, .no, .no] = some (.nx [.sh (.int n), .sh (eL l), .own (.lst ((shapes n l).map eL)), .no, .no, .no]) :=
    set_ok (ca_ok (ds := [.int n, eL l]) (consA_ok rfl (consA_ok rfl nilA_ok)) rfl (h1 l w h5) (free_eLs _)) rfl
  have hM := mk_ok (cl := 0) (f := I) (env := [.sh (.int n), .sh (eL l), .own (.lst ((shapes n l).map eL)), .no, .no, .no]) (fs := consA (varF 0) (consA (varF 1) nilA)) (ds := [.int n, eL l]) (fl := [.int n, eL l]) (consA_ok rfl (consA_ok rfl nilA_ok)) rfl (hI l w)
  have s2 : tr2 S2 I [.sh (.int n), .sh (eL l), .own (.lst ((shapes n l).map eL)), .no, .no, .no] = some (.nx [.sh (.int n), .sh (eL l), .own (.lst ((shapes n l).map eL)), .own (.lst ((shapes n l).map (webD n))), .no, .no]) :=
    set_ok (ca_st (ds := [webD n l]) (consA_ok hM nilA_ok) rfl (h2 l w h5) (free_webs fne) rfl) rfl
  have c1 := comp1 (i := 4) (env := [.sh (.int n), .sh (eL l), .own (.lst ((shapes n l).map eL)), .own (.lst ((shapes n l).map (webD n))), .no, .no]) (it := seqI (varF 3)) (tt := yesT) (fe := tupF (consA (unF (fldD 0 0) (varF 4)) (consA (unF (fldD 0 1) (varF 4)) nilA))) (ops := [3]) (ds := (shapes n l).map (webD n)) (t := fun _ => true) (h := fun d => match d with | .ins _ fs => .tup fs | _ => d) rfl (.inl rfl) (by rw [List.length_map]; omega) (fun d hd => by
    obtain ⟨x, _, rfl⟩ := List.mem_map.mp hd
    exact ⟨rfl, fun _ => ⟨_, rfl, .inl rfl⟩⟩)
  have c2 := comp1 (i := 5) (env := [.sh (.int n), .sh (eL l), .own (.lst ((shapes n l).map eL)), .own (.lst ((shapes n l).map (webD n))), .no, .no]) (it := seqI (varF 2)) (tt := yesT) (fe := tupF (consA (varF 0) (consA (varF 5) nilA))) (ops := [2]) (ds := (shapes n l).map eL) (t := fun _ => true) (h := fun d => .tup [.int n, d]) rfl (.inl rfl) (by rw [List.length_map]; omega) (fun d hd => by
    obtain ⟨x, _, rfl⟩ := List.mem_map.mp hd
    exact ⟨rfl, fun _ => ⟨_, rfl, .inl rfl⟩⟩)
  rw [filter_true, List.map_map] at c1 c2
  have m1 : (shapes n l).map ((fun d => match d with | .ins _ fs => .tup fs | _ => d) ∘ webD n) = (shapes n l).map fun x => D.tup [.int n, eL x] := rfl
  have m2 : (shapes n l).map ((fun d => D.tup [.int n, d]) ∘ eL) = (shapes n l).map fun x => D.tup [.int n, eL x] := rfl
  rw [m1] at c1
  rw [m2] at c2
  have eqq : eqD (.lst ((shapes n l).map fun x => D.tup [.int n, eL x])) (.lst ((shapes n l).map fun x => D.tup [.int n, eL x])) = some true := by
    refine eqD_same ?_ ?_
    · simp only [tree]
      exact trees_map (fun x => by simp [tree, trees, tree_eL]) _
    · simp only [hi]
      have := his_map (f := fun x => D.tup [.int n, eL x]) (n := 3) (fun x => by
        have := hi_eL x
        simp only [hi, his]
        omega) (shapes n l)
      omega
  have neq : neD (.lst ((shapes n l).map fun x => D.tup [.int n, eL x])) (.lst ((shapes n l).map fun x => D.tup [.int n, eL x])) = some false := by
    unfold neD
    rw [eqq]
    rfl
  have il : isiD "list" (.lst ((shapes n l).map (webD n))) = some (.sh (.bl true)) := by
    simp only [isiD, tyD, Option.bind, kit_list, Option.map_some]
  have s3 : tr3 [.sh (.int n), .sh (eL l), .own (.lst ((shapes n l).map eL)), .own (.lst ((shapes n l).map (webD n))), .no, .no] = some (.nx [.sh (.int n), .sh (eL l), .own (.lst ((shapes n l).map eL)), .own (.lst ((shapes n l).map (webD n))), .no, .no]) := by
    refine if_f (or_f (not_ok (b := true) (tru_ok (d := .bl true) (un_ok (da := .lst ((shapes n l).map (webD n))) rfl rfl il) rfl rfl)) ?_) rfl
    exact cmp_ok c1 c2 rfl rfl neq
  have s4 : ∃ e, tr4 S2 [.sh (.int n), .sh (eL l), .own (.lst ((shapes n l).map eL)), .own (.lst ((shapes n l).map (webD n))), .no, .no] = some (.rt (.sh (.bl true)) e) := by
    have len1 := cl_ok (f := lenD) (fs := consA (varF 2) nilA) (env := [.sh (.int n), .sh (eL l), .own (.lst ((shapes n l).map eL)), .own (.lst ((shapes n l).map (webD n))), .no, .no]) (ds := [.lst ((shapes n l).map eL)]) (consA_ok rfl nilA_ok) rfl (lenL _)
    have fst := bl_ok (op := cm2 fun i j => decide (j < i)) (fb := shF (.int 24)) (db := .int 24) (b := decide ((24 : Int) < (((shapes n l).map eL).length : Nat))) len1 rfl rfl rfl rfl
    unfold tr4 retF orF
    rw [fst]
    by_cases hbig : (24 : Int) < (((shapes n l).map eL).length : Nat)
    · rw [decide_eq_true hbig]
      exact ⟨_, rfl⟩
    · rw [decide_eq_false hbig]
      have hz : ∃ f z, shapes n l = f ++ [z] := by
        have := List.dropLast_concat_getLast fne
        exact ⟨_, _, this.symm⟩
      obtain ⟨f, z, hfz⟩ := hz
      have zm : z ∈ shapes n l := by rw [hfz]; simp
      have zw : WebP n z := (mem_shapes.mp zm).web w.srt
      have z5 : z.length ≤ 5 := by rw [shapes_len zm]; exact h5
      have pz := shapes_same w zm
      have ixz : ixD (.lst ((shapes n l).map (webD n))) (.int (-1)) = some (.sh (webD n z)) := by
        have := L2.atI_last (f.map (webD n)) (webD n z)
        simp only [ixD]
        rw [hfz, List.map_append, List.map_cons, List.map_nil, this]
        rfl
      have neg1 : negF (shF (.int 1)) [.sh (.int n), .sh (eL l), .own (.lst ((shapes n l).map eL)), .own (.lst ((shapes n l).map (webD n))), .no, .no] = some (.ok (.sh (.int (-1))) [.sh (.int n), .sh (eL l), .own (.lst ((shapes n l).map eL)), .own (.lst ((shapes n l).map (webD n))), .no, .no]) := rfl
      have zne : shapes n z ≠ [] := fun e => by have := (shapes_ok n z).1.hd; rw [e] at this; cases this
      have call := ca_st (f := S2) (env := [.sh (.int n), .sh (eL l), .own (.lst ((shapes n l).map eL)), .own (.lst ((shapes n l).map (webD n))), .no, .no]) (fs := consA (binF ixD (varF 3) (negF (shF (.int 1)))) nilA) (ds := [webD n z]) (consA_ok (bin_ok (op := ixD) (fa := varF 3) (ra := .vr 3) (rb := .sh (.int (-1))) (da := .lst ((shapes n l).map (webD n))) (db := .int (-1)) rfl neg1 rfl rfl ixz) nilA_ok) rfl (h2 z zw z5) (free_webs zne) rfl
      have c3 := comp1 (i := 4) (env := [.sh (.int n), .sh (eL l), .own (.lst ((shapes n l).map eL)), .own (.lst ((shapes n l).map (webD n))), .no, .no]) (tt := yesT) (fe := unF (fldD 0 1) (varF 4)) (ds := (shapes n z).map (webD n)) (t := fun _ => true) (h := fun d => match d with | .ins _ [_, y] => y | _ => d) (seqI_ok call (.inl rfl)) (.inl rfl) (by rw [List.length_map, pz.length_eq]; omega) (fun d hd => by
        obtain ⟨x, _, rfl⟩ := List.mem_map.mp hd
        exact ⟨rfl, fun _ => ⟨_, rfl, .inl rfl⟩⟩)
      rw [filter_true, List.map_map] at c3
      have m3 : (shapes n z).map ((fun d => match d with | .ins _ [_, y] => y | _ => d) ∘ webD n) = (shapes n z).map eL := rfl
      rw [m3] at c3
      have so1 := sort_eLs (shapes_sort (n := n) (l := z)) (by rw [pz.length_eq]; omega)
      have so2 := sort_eLs (shapes_sort (n := n) (l := l)) (by omega)
      have same : ((shapes n z).map eL).mergeSort leD = ((shapes n l).map eL).mergeSort leD := sort_perm (pz.map eL) fun a ha b hb' e => by
        obtain ⟨x, _, rfl⟩ := List.mem_map.mp ha
        obtain ⟨y, _, rfl⟩ := List.mem_map.mp hb'
        rw [tok_eL e]
      rw [same] at so1
      have tp := trees_perm (List.mergeSort_perm ((shapes n l).map eL) leD).symm (trees_map tree_eL _)
      have eqq2 : eqD (.lst (((shapes n l).map eL).mergeSort leD)) (.lst (((shapes n l).map eL).mergeSort leD)) = some true := by
        refine eqD_same (by simpa [tree] using tp.1) ?_
        simp only [hi]
        rw [tp.2]
        have := his_map (f := eL) (n := 2) hi_eL (shapes n l)
        omega
      have snd := bl_ok (op := eqD) (cl_ok (f := sortD) (consA_ok c3 nilA_ok) rfl so1) (cl_ok (f := sortD) (fs := consA (varF 2) nilA) (consA_ok rfl nilA_ok) rfl so2) rfl rfl eqq2
      refine ⟨[.sh (.int n), .sh (eL l), .own (.lst ((shapes n l).map eL)), .own (.lst ((shapes n l).map (webD n))), .no, .no], ?_⟩
      simp only [bE_ok, peek, Option.bind, truthD]
      rw [snd]
      rfl
  obtain ⟨e, s4⟩ := s4
  exact runF_rt rfl (seq_ok s1 (seq_ok s2 (seq_ok s3 s4))) rfl
theorem ok_turns_right {n : Nat} (hn : 1 ≤ n ∧ n ≤ 4) {l : List Pr} (w : WebP n l) (h5 : l.length ≤ 5) : f__law_turns_right [.int n, eL l] = some (.ok (.sh (.bl true))) :=
  tr_run hn w h5 (fun m hm => hm.init) (fun l w h => ok_law_shapes hn w h) (fun l w h => ok_turned_shapes hn w h)
end K94
namespace K94
open PySem PySem.Spec L2 Ev Ma
/-! ### what is shown -/
def oddsD (n : Nat) : List D := [.int n, .int (-1), .non, .bl true, .str "0", .lst [.int 0], .int 0, .int 1]
def oddT (o : List Int) (r : Nat) (d : D) : D := .tup ((o.take r).map .int ++ [d] ++ (o.drop (r + 1)).map .int)
def famT (n : Nat) (o : List Int) : List D :=
  [eO o, eO o.reverse, eO (o.drop 1), eO (o ++ [(n : Int)]), .tup [eO o], .tup (List.replicate n (.lst [.int 0]))] ++ (List.range n).flatMap fun r => (oddsD n).map fun d => oddT o r d
def cpsOf (t : D) : List Nat := (pyOf t).shown.cps.toList
def sameO (t : D) (p : List Int) : Bool := match t with
  | .tup ds => match unIs ds with
    | some q => q == p
    | none => false
  | _ => false
def fineT (t : D) : Bool := (match t with
  | .tup ds => ds.all (fun e => (tyD e).isSome) && decide (ds.length ≤ 1000)
  | _ => false) && (toPy t).isSome && (pyOf t).showable && !(pyOf t).hasDict && decide ((pyOf t).depth < 100) && decide ((pyOf t).shown.length ≤ 1000) && PyData.strOk (pyOf t).shown
def chk (S : List (List Int × List Nat)) (t : D) : Bool := fineT t && S.all fun p => !(p.2 == cpsOf t) || sameO t p.1
theorem chk_all : ∀ n : Nat, n ≤ 4 → ((pm n).all fun o => (famT n o).all (chk ((pm n).map fun p => (p, cpsOf (eO p))))) = true := by decide +kernel
end K94
namespace K94
open PySem PySem.Spec L2 Ev Ma
/-! ### slices -/
theorem cut_from (xs : List D) (k : Nat) : cutD xs (some (k : Int)) none = xs.drop k := by
  unfold cutD
  rw [HT.sIx_nat, HT.sIx_none]
  by_cases h : k ≤ xs.length
  · rw [Nat.min_eq_left h, List.take_of_length_le (by simp)]
  · rw [Nat.min_eq_right (by omega), List.drop_eq_nil_of_le (Nat.le_refl _), List.drop_eq_nil_of_le (by omega)]
    simp
theorem cut_to (xs : List D) (k : Nat) : cutD xs none (some (k : Int)) = xs.take k := by
  unfold cutD
  rw [HT.sIx_nat, HT.sIx_none]
  simp only [List.drop_zero, Nat.sub_zero]
  by_cases h : k ≤ xs.length
  · rw [Nat.min_eq_left h]
  · rw [Nat.min_eq_right (by omega), List.take_of_length_le (Nat.le_refl _), List.take_of_length_le (by omega)]
theorem slT {fa : F} {fl fh : FP} {env : List Ent} {ra : Val} {xs : List D} {lo hi : Option Int} (h1 : fa env = some (.ok ra env)) (h2 : fl env = some (.ok lo env)) (h3 : fh env = some (.ok hi env)) (h4 : peek env ra = some (.tup xs)) : slF fa fl fh env = some (.ok (.sh (.tup (cutD xs lo hi))) env) := by
  unfold slF
  rw [h1, bE_ok, h2]
  dsimp only [bPE]
  rw [h3]
  dsimp only [bPE]
  rw [h4]
  rfl
theorem slL {fa : F} {fl fh : FP} {env : List Ent} {ra : Val} {xs : List D} {lo hi : Option Int} (h1 : fa env = some (.ok ra env)) (h2 : fl env = some (.ok lo env)) (h3 : fh env = some (.ok hi env)) (h4 : peek env ra = some (.lst xs)) : slF fa fl fh env = some (.ok (.fr (.lst (cutD xs lo hi))) env) := by
  unfold slF
  rw [h1, bE_ok, h2]
  dsimp only [bPE]
  rw [h3]
  dsimp only [bPE]
  rw [h4]
  rfl
theorem part_ok {f : F} {env : List Ent} {r : Val} {i : Int} (h : f env = some (.ok r env)) (h2 : peek env r = some (.int i)) : partF f env = some (.ok (some i) env) := by
  unfold partF
  rw [h]
  dsimp only
  rw [h2]
theorem addT {xs ys : List D} (h : xs.length + ys.length ≤ 1000000) : addD (.tup xs) (.tup ys) = some (.sh (.tup (xs ++ ys))) := by
  unfold addD
  dsimp only
  rw [if_pos h]
theorem addL {xs ys : List D} (h : xs.length + ys.length ≤ 1000000) : addD (.lst xs) (.lst ys) = some (.fr (.lst (xs ++ ys))) := by
  unfold addD
  dsimp only
  rw [if_pos h]
/-! ### what is due -/
theorem isO_iff {n : Nat} (hn : 1 ≤ n ∧ n ≤ 4) {l m : List Pr} {t : D} : isO n l m t = true ↔ ∃ p ∈ (pm n).filter (okB l m), t = eO p := by
  constructor
  · intro h
    unfold isO at h
    rw [Bool.and_eq_true, Bool.and_eq_true, decide_eq_true_iff] at h
    obtain ⟨h1, h2, h3⟩ := h
    obtain ⟨o, rfl, hl, hr⟩ := row_eO h1
    rw [listI_eO] at h2 h3
    have op := rng_ord n ((srtI_iff (by omega)).mp h2)
    exact ⟨o, List.mem_filter.mpr ⟨in_pm hn op, h3⟩, rfl⟩
  · rintro ⟨p, hp, rfl⟩
    obtain ⟨h1, h2⟩ := List.mem_filter.mp hp
    have op := pm_ord hn.2 h1
    unfold isO
    rw [listI_eO, h2, Bool.and_true, Bool.and_eq_true, decide_eq_true_iff]
    refine ⟨?_, (srtI_iff (by omega)).mpr (ord_perm hn op)⟩
    have h3 := op.1
    have h4 := op.2.2
    simp only [rowB, eO, isTup, List.length_map, Bool.and_eq_true, decide_eq_true_iff, List.all_map, List.all_eq_true]
    refine ⟨h3, fun x hx => ?_⟩
    have := h4 x hx
    simp only [Function.comp_apply, within, Bool.and_eq_true, decide_eq_true_iff]
    omega
def rs (t : D) : Str := (pyOf t).shown
theorem rs_cps {a b : D} (h : rs a = rs b) : cpsOf a = cpsOf b := congrArg (fun x : Str => x.cps.toList) h
theorem fine_repr {t : D} (h : fineT t = true) : reprD [t] = some (.sh (.str (rs t))) ∧ PyData.strOk (rs t) = true ∧ (tyD t).isSome = true ∧ (∀ ds, isTup t = some ds → (∀ e ∈ ds, (tyD e).isSome = true) ∧ ds.length ≤ 1000000) ∧ isiD "tuple" t = some (.sh (.bl true)) := by
  unfold fineT at h
  simp only [Bool.and_eq_true, decide_eq_true_iff, Bool.not_eq_true'] at h
  obtain ⟨⟨⟨⟨⟨⟨h0, h1⟩, h2⟩, h3⟩, h4⟩, h5⟩, h6⟩ := h
  cases t with
  | tup ds =>
    simp only [Bool.and_eq_true, decide_eq_true_iff, List.all_eq_true] at h0
    refine ⟨?_, h6, rfl, fun ds' e => by cases e; exact ⟨h0.1, by omega⟩, ?_⟩
    · unfold reprD on1
      dsimp only
      cases k : toPy (.tup ds) with
      | none => rw [k] at h1; cases h1
      | some p =>
        have e : pyOf (.tup ds) = p := by unfold pyOf; rw [k]; rfl
        rw [e] at h2 h3 h4 h5
        dsimp only
        rw [if_pos ⟨h2, h3, rfl, h4, by omega⟩]
        unfold rs
        rw [e]
    · rw [isi_tup rfl]
      rfl
  | _ => cases h0
theorem toPy_str {s : Str} (h : PyData.strOk s = true) : toPy (.str s) = some (.str s) := by simp only [toPy]; rw [if_pos h]
theorem toPys_strs : ∀ {ss : List Str}, (∀ s ∈ ss, PyData.strOk s = true) → toPys (ss.map D.str) = some (ss.map PyData.str)
  | [], _ => rfl
  | s :: ss, h => by
    simp only [List.map_cons, toPys]
    rw [toPy_str (h s List.mem_cons_self), toPys_strs fun x hx => h x (List.mem_cons_of_mem _ hx)]
theorem canLay_strs : ∀ {ss : List Str}, (∀ s ∈ ss, PyData.strOk s = true) → PyData.canLayAll0 (ss.map PyData.str) = true
  | [], _ => by simp [PyData.canLayAll0]
  | s :: ss, h => by
    have := canLay_strs (ss := ss) fun x hx => h x (List.mem_cons_of_mem _ hx)
    simp [PyData.canLayAll0, PyData.canLay0, h s List.mem_cons_self, this]
theorem depth_strs : ∀ ss : List Str, PyData.depthAll (ss.map PyData.str) = 0
  | [] => by simp [PyData.depthAll]
  | s :: ss => by simp [PyData.depthAll, PyData.depth, depth_strs ss]
theorem in_strs {s : Str} {ss : List Str} (h : PyData.strOk s = true) (hs : ∀ x ∈ ss, PyData.strOk x = true) : ∃ b, inD false (.str s) (.lst (ss.map D.str)) = some b ∧ (b = true ↔ s ∈ ss) := by
  have s1 : SeqAt.shaped (.str s) = true := by unfold SeqAt.shaped; simp [PyData.canLay0, PyData.depth, h]
  have s2 : SeqAt.shaped (.list (ss.map PyData.str)) = true := by unfold SeqAt.shaped; simp [PyData.canLay0, PyData.depth, canLay_strs hs, depth_strs]
  refine ⟨(ss.map PyData.str).any fun z => PyData.eqv z (.str s), ?_, ?_⟩
  · simp only [inD, toPy_str h, toPys_strs hs]
    rw [if_pos ⟨s1, s2⟩, Bool.false_xor]
  · rw [List.any_map, List.any_eq_true]
    constructor
    · rintro ⟨x, hx, e⟩
      have : x = s := by simpa [PyData.eqv] using e
      exact this ▸ hx
    · intro hx
      exact ⟨s, hx, by simp [PyData.eqv]⟩
theorem fam_fine {n : Nat} (hn : n ≤ 4) {o : List Int} (ho : o ∈ pm n) {t : D} (ht : t ∈ famT n o) : fineT t = true ∧ ∀ p ∈ pm n, rs t = rs (eO p) → t = eO p := by
  have h := List.all_eq_true.mp (List.all_eq_true.mp (chk_all n hn) o ho) t ht
  unfold chk at h
  rw [Bool.and_eq_true] at h
  refine ⟨h.1, fun p hp e => ?_⟩
  have h2 := List.all_eq_true.mp h.2 (p, cpsOf (eO p)) (List.mem_map.mpr ⟨p, hp, rfl⟩)
  have e2 : (cpsOf (eO p) == cpsOf t) = true := by rw [rs_cps e]; simp
  simp only [e2, Bool.not_true, Bool.false_or] at h2
  unfold sameO at h2
  cases t with
  | tup ds =>
    dsimp only at h2
    cases k : unIs ds with
    | none => rw [k] at h2; cases h2
    | some q =>
      rw [k] at h2
      have : q = p := by simpa using h2
      rw [unIs_eq k, this]
      rfl
  | _ => cases h2
theorem eO_fam (n : Nat) (o : List Int) : eO o ∈ famT n o := List.mem_append_left _ List.mem_cons_self
/-- a thing of which the law knows what is due -/
structure Thing (n : Nat) (l m : List Pr) (t : D) : Prop where
  ty : (tyD t).isSome = true
  el : ∀ ds, isTup t = some ds → (∀ e ∈ ds, (tyD e).isSome = true) ∧ ds.length ≤ 1000000
  due : (isiD "tuple" t = some (.sh (.bl false)) ∧ isO n l m t = false) ∨ (isiD "tuple" t = some (.sh (.bl true)) ∧ reprD [t] = some (.sh (.str (rs t))) ∧ PyData.strOk (rs t) = true ∧ (isO n l m t = true ↔ rs t ∈ ((pm n).filter (okB l m)).map fun p => rs (eO p)))
theorem fam_thing {n : Nat} (hn : 1 ≤ n ∧ n ≤ 4) (l m : List Pr) {o : List Int} (ho : o ∈ pm n) {t : D} (ht : t ∈ famT n o) : Thing n l m t := by
  obtain ⟨h1, h2⟩ := fam_fine hn.2 ho ht
  obtain ⟨r1, r2, r3, r4, r5⟩ := fine_repr h1
  refine ⟨r3, r4, .inr ⟨r5, r1, r2, ?_⟩⟩
  rw [isO_iff hn]
  constructor
  · rintro ⟨p, hp, rfl⟩
    exact List.mem_map.mpr ⟨p, hp, rfl⟩
  · intro h
    obtain ⟨p, hp, e⟩ := List.mem_map.mp h
    exact ⟨p, hp, h2 p (List.mem_filter.mp hp).1 e.symm⟩
theorem odd_thing {n : Nat} (l m : List Pr) {t : D} (ty : (tyD t).isSome = true) (ht : isTup t = none) : Thing n l m t := by
  refine ⟨ty, (fun ds e => by rw [ht] at e; cases e), .inl ⟨?_, ?_⟩⟩
  · rw [isi_tup ty, ht]
    rfl
  · unfold isO rowB
    rw [ht]
    rfl
theorem dues_ok {n : Nat} (hn : 1 ≤ n ∧ n ≤ 4) {p : List Int} (hp : p ∈ pm n) : reprD [eO p] = some (.sh (.str (rs (eO p)))) ∧ PyData.strOk (rs (eO p)) = true := by
  obtain ⟨h1, h2, _⟩ := fine_repr (fam_fine hn.2 hp (eO_fam n p)).1
  exact ⟨h1, h2⟩
end K94
namespace K94
open PySem PySem.Spec L2 Ev Ma
noncomputable def jr_b (S : Fn) : FS := (seqF (setF 10 (caF S (consA (varF 1) (consA (varF 2) (consA (varF 9) nilA)))))
    (seqF (setF 11 (andF (unF (isiD "tuple") (varF 9)) (binF (oBl (inD false)) (clF reprD (consA (varF 9) nilA)) (compF true [12] (seqI (varF 4)) (gnF 12) yesT (clF reprD (consA (varF 12) nilA))))))
    (ifS (orT (notT (truF (unF (isiD "bool") (varF 10)))) (cmpT neD (varF 10) (varF 11))) (retF (shF (.bl false))) nxF)))
theorem eq_bls (a b : Bool) : eqD (.bl a) (.bl b) = some (a == b) := by
  simp only [eqD, toPy]
  rw [if_pos (by simp [SeqAt.shaped, PyData.canLay0, PyData.depth])]
  simp [PyData.eqv]
theorem and_F1 {fa fb : F} {env e1 : List Ent} {o : Option Ou} (h1 : fa env = some (.ok (.sh (.bl true)) e1)) (h2 : fb e1 = o) : andF fa fb env = o := by
  unfold andF
  rw [h1, bE_ok]
  simp only [peek, Option.bind, truthD]
  exact h2
theorem and_F0 {fa fb : F} {env e1 : List Ent} (h1 : fa env = some (.ok (.sh (.bl false)) e1)) : andF fa fb env = some (.ok (.sh (.bl false)) e1) := by
  unfold andF
  rw [h1, bE_ok]
  rfl
theorem jr_step {S : Fn} {n : Nat} (hn : 1 ≤ n ∧ n ≤ 4) {l m : List Pr} {t : D} (ht : Thing n l m t) (hS : S [webD n l, webD n m, t] = some (.ok (.sh (.bl (isO n l m t))))) {e0 : Ent} {d3 d5 d6 d7 d8 : D} {e10 e11 : Ent} (o10 : opn (some e10)) (o11 : opn (some e11)) :
    ∃ e10' e11', opn (some e10') ∧ opn (some e11') ∧ jr_b S [e0, .sh (webD n l), .sh (webD n m), .sh d3, .sh (.lst (((pm n).filter (okB l m)).map eO)), .sh d5, .sh d6, .sh d7, .sh d8, .sh t, e10, e11, .no] =
      some (.nx [e0, .sh (webD n l), .sh (webD n m), .sh d3, .sh (.lst (((pm n).filter (okB l m)).map eO)), .sh d5, .sh d6, .sh d7, .sh d8, .sh t, e10', e11', .no]) := by
  generalize hP : (pm n).filter (okB l m) = P at *
  have hPm : ∀ p ∈ P, p ∈ pm n := fun p hp => by rw [← hP] at hp; exact (List.mem_filter.mp hp).1
  have hPl : P.length ≤ 24 := by rw [← hP]; exact Nat.le_trans (List.length_filter_le _ _) (len_pm n hn.2)
  have s1 : setF 10 (caF S (consA (varF 1) (consA (varF 2) (consA (varF 9) nilA)))) [e0, .sh (webD n l), .sh (webD n m), .sh d3, .sh (.lst (P.map eO)), .sh d5, .sh d6, .sh d7, .sh d8, .sh t, e10, e11, .no] = some (.nx [e0, .sh (webD n l), .sh (webD n m), .sh d3, .sh (.lst (P.map eO)), .sh d5, .sh d6, .sh d7, .sh d8, .sh t, .sh (.bl (isO n l m t)), e11, .no]) :=
    set_ok (ca_ok (ds := [webD n l, webD n m, t]) (consA_ok rfl (consA_ok rfl (consA_ok rfl nilA_ok))) rfl hS rfl) (put_sh (i := 10) o10)
  have due : ∃ b : Bool, b = isO n l m t ∧ andF (unF (isiD "tuple") (varF 9)) (binF (oBl (inD false)) (clF reprD (consA (varF 9) nilA)) (compF true [12] (seqI (varF 4)) (gnF 12) yesT (clF reprD (consA (varF 12) nilA)))) [e0, .sh (webD n l), .sh (webD n m), .sh d3, .sh (.lst (P.map eO)), .sh d5, .sh d6, .sh d7, .sh d8, .sh t, .sh (.bl (isO n l m t)), e11, .no] = some (.ok (.sh (.bl b)) [e0, .sh (webD n l), .sh (webD n m), .sh d3, .sh (.lst (P.map eO)), .sh d5, .sh d6, .sh d7, .sh d8, .sh t, .sh (.bl (isO n l m t)), e11, .no]) := by
    rcases ht.due with ⟨k1, k2⟩ | ⟨k1, k2, k3, k4⟩
    · exact ⟨false, k2.symm, and_F0 (un_ok (da := t) rfl rfl k1)⟩
    · have c := comp1 (i := 12) (env := [e0, .sh (webD n l), .sh (webD n m), .sh d3, .sh (.lst (P.map eO)), .sh d5, .sh d6, .sh d7, .sh d8, .sh t, .sh (.bl (isO n l m t)), e11, .no]) (it := seqI (varF 4)) (tt := yesT) (fe := clF reprD (consA (varF 12) nilA)) (ops := []) (ds := P.map eO) (t := fun _ => true) (h := fun d => .str (rs d)) rfl (.inl rfl) (by rw [List.length_map]; omega) (fun d hd => by
        obtain ⟨p, hp, rfl⟩ := List.mem_map.mp hd
        exact ⟨rfl, fun _ => ⟨_, cl_ok (consA_ok rfl nilA_ok) rfl (dues_ok hn (hPm p hp)).1, .inl rfl⟩⟩)
      rw [filter_true, List.map_map] at c
      have e1 : P.map ((fun d => D.str (rs d)) ∘ eO) = (P.map fun p => rs (eO p)).map D.str := by rw [List.map_map]; rfl
      rw [e1] at c
      obtain ⟨b, b1, b2⟩ := in_strs (s := rs t) (ss := P.map fun p => rs (eO p)) k3 (fun x hx => by
        obtain ⟨p, hp, rfl⟩ := List.mem_map.mp hx
        exact (dues_ok hn (hPm p hp)).2)
      refine ⟨b, ?_, and_F1 (un_ok (da := t) rfl rfl k1) (bl_ok (cl_ok (consA_ok rfl nilA_ok) rfl k2) c rfl rfl b1)⟩
      rw [hP] at k4
      rw [Bool.eq_iff_iff, b2, k4]
  obtain ⟨b, hb, hd⟩ := due
  subst hb
  have s2 := set_ok (i := 11) hd (put_sh (i := 11) o11)
  have ib : isiD "bool" (.bl (isO n l m t)) = some (.sh (.bl true)) := by
    simp only [isiD, tyD, Option.bind, kit_tab4.1, Option.map_some]
  have ne : neD (.bl (isO n l m t)) (.bl (isO n l m t)) = some false := by
    unfold neD
    rw [eq_bls]
    simp
  refine ⟨.sh (.bl (isO n l m t)), .sh (.bl (isO n l m t)), .inr ⟨_, rfl⟩, .inr ⟨_, rfl⟩, seq_ok s1 (seq_ok s2 (if_f (or_f (not_ok (b := true) (tru_ok (d := .bl true) (un_ok (da := .bl (isO n l m t)) rfl rfl ib) rfl rfl)) (cmp_ok (da := .bl (isO n l m t)) (db := .bl (isO n l m t)) rfl rfl rfl rfl ne)) rfl))⟩
theorem jr_loop {S : Fn} {n : Nat} (hn : 1 ≤ n ∧ n ≤ 4) {l m : List Pr} {ts : List D} (ht : ∀ t ∈ ts, Thing n l m t) (hS : ∀ t ∈ ts, S [webD n l, webD n m, t] = some (.ok (.sh (.bl (isO n l m t))))) {e0 : Ent} {d3 d5 d6 d7 d8 : D} :
    ∃ e', forL (gnF 9) (jr_b S) ts [e0, .sh (webD n l), .sh (webD n m), .sh d3, .sh (.lst (((pm n).filter (okB l m)).map eO)), .sh d5, .sh d6, .sh d7, .sh d8, .no, .no, .no, .no] = some (.nx e') ∧ ∃ r, e' = e0 :: r := by
  obtain ⟨e', h1, e9, e10, e11, o9, o10, o11, rfl⟩ := forL_keep (g := gnF 9) (b := jr_b S) (fun e => ∃ e9 e10 e11, opn (some e9) ∧ opn (some e10) ∧ opn (some e11) ∧ e = [e0, .sh (webD n l), .sh (webD n m), .sh d3, .sh (.lst (((pm n).filter (okB l m)).map eO)), .sh d5, .sh d6, .sh d7, .sh d8, e9, e10, e11, .no]) ts [e0, .sh (webD n l), .sh (webD n m), .sh d3, .sh (.lst (((pm n).filter (okB l m)).map eO)), .sh d5, .sh d6, .sh d7, .sh d8, .no, .no, .no, .no] (fun t htm e he => by
    obtain ⟨e9, e10, e11, o9, o10, o11, rfl⟩ := he
    obtain ⟨e10', e11', o10', o11', h⟩ := jr_step (S := S) hn (ht t htm) (hS t htm) (e0 := e0) (d3 := d3) (d5 := d5) (d6 := d6) (d7 := d7) (d8 := d8) o10 o11
    exact ⟨_, _, gn_ok (i := 9) o9, h, .sh t, e10', e11', .inr ⟨_, rfl⟩, o10', o11', rfl⟩) ⟨.no, .no, .no, .inl rfl, .inl rfl, .inl rfl, rfl⟩
  exact ⟨_, h1, _, rfl⟩
noncomputable def j1 (A : Fi) : FS := (setF 5 (ioF 0 A (consA (varF 4) nilA)))
noncomputable def j2 (F : Fi) : FS := (setF 6 (ioF 0 F (consA (varF 3) nilA)))
noncomputable def j3 (A : Fi) : FS := (setF 7 (ioF 0 A (consA (lstF (consA (varF 3) (consA (negF (shF (.int 1))) (consA (shF .non) (consA (shF (.bl true)) (consA (shF (.str "0")) (consA (lstF (consA (shF (.int 0)) nilA)) (consA (shF (.int 0)) (consA (shF (.int 1)) nilA))))))))) nilA)))
noncomputable def j4 (M : Fi) : FS := (setF 8 (lstF (consA (varF 5) (consA (clF tupleD (consA (ioF 0 M (consA (clF listD (consA (varF 5) nilA)) nilA)) nilA)) (consA (unF revD (varF 5)) (consA (clF listD (consA (varF 5) nilA)) (consA (slF (varF 5) (partF (shF (.int 1))) noP) (consA (binF addD (varF 5) (tupF (consA (varF 3) nilA))) (consA (shF .non) nilA)))))))))
noncomputable def j5 : FS := (setF 8 (binF addD (varF 8) (lstF (consA (binF addD (binF addD (slF (varF 5) noP (partF (varF 6))) (tupF (consA (varF 7) nilA))) (slF (varF 5) (partF (binF addD (varF 6) (shF (.int 1)))) noP)) (consA (shF (.int 0)) (consA dctF (consA (shF (.str "0")) (consA (tupF (consA (varF 5) nilA)) (consA (binF mulD (tupF (consA (lstF (consA (shF (.int 0)) nilA)) nilA)) (varF 3)) nilA)))))))))
noncomputable def j6 (S : Fn) : FS := (forF (seqI (varF 8)) (gnF 9) (seqF (setF 10 (caF S (consA (varF 1) (consA (varF 2) (consA (varF 9) nilA)))))
    (seqF (setF 11 (andF (unF (isiD "tuple") (varF 9)) (binF (oBl (inD false)) (clF reprD (consA (varF 9) nilA)) (compF true [12] (seqI (varF 4)) (gnF 12) yesT (clF reprD (consA (varF 12) nilA))))))
    (ifS (orT (notT (truF (unF (isiD "bool") (varF 10)))) (cmpT neD (varF 10) (varF 11))) (retF (shF (.bl false))) nxF))))
noncomputable def j7 : FS := (retF (shF (.bl true)))
theorem mul_rep {n : Nat} (hn : 1 ≤ n ∧ n ≤ 4) : mulD (.tup [.lst [.int 0]]) (.int n) = some (.sh (.tup (List.replicate n (.lst [.int 0])))) := by
  have : n = 1 ∨ n = 2 ∨ n = 3 ∨ n = 4 := by omega
  rcases this with rfl | rfl | rfl | rfl
  · rfl
  all_goals
    unfold mulD
    dsimp only
    rw [if_neg (by omega), if_pos ⟨by simp, by omega, by omega, by simp⟩]
    rfl
theorem judged_run {A F M : Fi} {S : Fn} (hA : AnyOk A) (hF : DrawOk F) (hM : MixOk M) {n : Nat} (hn : 1 ≤ n ∧ n ≤ 4) {l m : List Pr} (hS : ∀ t, (tyD t).isSome = true → (∀ ds, isTup t = some ds → (∀ e ∈ ds, (tyD e).isSome = true) ∧ ds.length ≤ 1000000) → S [webD n l, webD n m, t] = some (.ok (.sh (.bl (isO n l m t))))) (hP : (pm n).filter (okB l m) ≠ []) {h : List D} (H : HandP h) :
    ∃ h', HandP h' ∧ runI 5 13 (seqF (j1 A) (seqF (j2 F) (seqF (j3 A) (seqF (j4 M) (seqF j5 (seqF (j6 S) j7)))))) h [webD n l, webD n m, .int n, .lst (((pm n).filter (okB l m)).map eO)] = some (h', .sh (.bl true)) := by
  generalize hPe : (pm n).filter (okB l m) = P at *
  have hPm : ∀ p ∈ P, p ∈ pm n := fun p hp => by rw [← hPe] at hp; exact (List.mem_filter.mp hp).1
  have hPl : P.length ≤ 24 := by rw [← hPe]; exact Nat.le_trans (List.length_filter_le _ _) (len_pm n hn.2)
  obtain ⟨h1, d, H1, hd, a1⟩ := hA.go h H (P.map eO) (by simpa using hP) (by rw [List.length_map]; omega)
  obtain ⟨o, ho, rfl⟩ := List.mem_map.mp hd
  have op := pm_ord hn.2 (hPm o ho)
  have ol : o.length = n := by have := op.1; omega
  obtain ⟨h2, r, H2, r0, r1, a2⟩ := hF.go h1 H1 n (by omega)
  obtain ⟨r, rfl⟩ := Int.eq_ofNat_of_zero_le r0
  obtain ⟨h3, od, H3, hod, a3⟩ := hA.go h2 H2 [.int n, .int (-1), .non, .bl true, .str "0", .lst [.int 0], .int 0, .int 1] (by simp) (by simp)
  obtain ⟨h4, o', H4, po, a4⟩ := hM.ints H3 (f := D.int) o (by omega)
  have o'p : o' ∈ pm n := in_pm hn (rng_ord n (po.trans (ord_perm hn op)))
  have s1 : j1 A [.io (.lst h), .sh (webD n l), .sh (webD n m), .sh (.int n), .sh (.lst (P.map eO)), .no, .no, .no, .no, .no, .no, .no, .no] = some (.nx [.io (.lst h1), .sh (webD n l), .sh (webD n m), .sh (.int n), .sh (.lst (P.map eO)), .sh (eO o), .no, .no, .no, .no, .no, .no, .no]) :=
    set_ok (io_ok (ds := [.lst (P.map eO)]) rfl (consA_ok rfl nilA_ok) rfl rfl a1) rfl
  have s2 : j2 F [.io (.lst h1), .sh (webD n l), .sh (webD n m), .sh (.int n), .sh (.lst (P.map eO)), .sh (eO o), .no, .no, .no, .no, .no, .no, .no] = some (.nx [.io (.lst h2), .sh (webD n l), .sh (webD n m), .sh (.int n), .sh (.lst (P.map eO)), .sh (eO o), .sh (.int (r : Nat)), .no, .no, .no, .no, .no, .no]) :=
    set_ok (io_ok (ds := [.int n]) rfl (consA_ok rfl nilA_ok) rfl rfl a2) rfl
  have s3 : j3 A [.io (.lst h2), .sh (webD n l), .sh (webD n m), .sh (.int n), .sh (.lst (P.map eO)), .sh (eO o), .sh (.int (r : Nat)), .no, .no, .no, .no, .no, .no] = some (.nx [.io (.lst h3), .sh (webD n l), .sh (webD n m), .sh (.int n), .sh (.lst (P.map eO)), .sh (eO o), .sh (.int (r : Nat)), .sh od, .no, .no, .no, .no, .no]) :=
    set_ok (io_ok (rs := [.sh (.lst [.int n, .int (-1), .non, .bl true, .str "0", .lst [.int 0], .int 0, .int 1])]) (ds := [.lst [.int n, .int (-1), .non, .bl true, .str "0", .lst [.int 0], .int 0, .int 1]]) rfl rfl rfl rfl a3) rfl
  generalize hE : [Ent.io (.lst h3), .sh (webD n l), .sh (webD n m), .sh (.int n), .sh (.lst (P.map eO)), .sh (eO o), .sh (.int (r : Nat)), .sh od, .no, .no, .no, .no, .no] = E3 at s3
  generalize hE4 : [Ent.io (.lst h4), .sh (webD n l), .sh (webD n m), .sh (.int n), .sh (.lst (P.map eO)), .sh (eO o), .sh (.int (r : Nat)), .sh od, .no, .no, .no, .no, .no] = E4
  have v5 : varF 5 E3 = some (.ok (.sh (eO o)) E3) := by rw [← hE]; rfl
  have w5 : varF 5 E4 = some (.ok (.sh (eO o)) E4) := by rw [← hE4]; rfl
  have w3 : varF 3 E4 = some (.ok (.sh (.int n)) E4) := by rw [← hE4]; rfl
  have mx : clF tupleD (consA (ioF 0 M (consA (clF listD (consA (varF 5) nilA)) nilA)) nilA) E3 = some (.ok (.sh (eO o')) E4) := by
    refine cl_ok (rs := [.sh (.lst (o'.map D.int))]) (ds := [.lst (o'.map D.int)]) ?_ (by rfl) rfl
    have : ioF 0 M (consA (clF listD (consA (varF 5) nilA)) nilA) E3 = some (.ok (.fr (.lst (o'.map D.int))) E4) := by
      rw [← hE, ← hE4]
      exact io_ok (i := 0) (e1 := [.io (.lst h3), .sh (webD n l), .sh (webD n m), .sh (.int n), .sh (.lst (P.map eO)), .sh (eO o), .sh (.int (r : Nat)), .sh od, .no, .no, .no, .no, .no]) (e2 := [.io (.lst h3), .sh (webD n l), .sh (webD n m), .sh (.int n), .sh (.lst (P.map eO)), .sh (eO o), .sh (.int (r : Nat)), .sh od, .no, .no, .no, .no, .no]) (rs := [.sh (.lst (o.map D.int))]) (ds := [.lst (o.map D.int)]) rfl rfl rfl rfl a4
    exact consA_ok this nilA_ok
  have rv : unF revD (varF 5) E4 = some (.ok (.sh (eO o.reverse)) E4) := un_ok (da := eO o) w5 rfl (by unfold eO; rw [List.map_reverse]; rfl)
  have li : clF listD (consA (varF 5) nilA) E4 = some (.ok (.fr (.lst (o.map D.int))) E4) := cl_ok (ds := [eO o]) (consA_ok w5 nilA_ok) rfl rfl
  have t1 : slF (varF 5) (partF (shF (.int 1))) noP E4 = some (.ok (.sh (eO (o.drop 1))) E4) := by
    have := slT (fl := partF (shF (.int 1))) (fh := noP) (xs := o.map D.int) (lo := some ((1 : Nat) : Int)) (hi := none) w5 (part_ok (f := shF (.int 1)) (r := .sh (.int 1)) rfl rfl) rfl rfl
    rw [cut_from] at this
    rw [this]
    unfold eO
    rw [List.map_drop]
  have pn : binF addD (varF 5) (tupF (consA (varF 3) nilA)) E4 = some (.ok (.sh (eO (o ++ [(n : Int)]))) E4) := by
    refine bin_ok (da := eO o) (db := .tup [.int n]) w5 (tup_ok (ds := [.int n]) (consA_ok w3 nilA_ok) rfl) rfl rfl ?_
    unfold eO
    rw [addT (by simp; omega)]
    simp
  generalize hT1 : [eO o, eO o', eO o.reverse, .lst (o.map D.int), eO (o.drop 1), eO (o ++ [(n : Int)]), .non] = T1
  have s4 : j4 M E3 = some (.nx [.io (.lst h4), .sh (webD n l), .sh (webD n m), .sh (.int n), .sh (.lst (P.map eO)), .sh (eO o), .sh (.int (r : Nat)), .sh od, .own (.lst T1), .no, .no, .no, .no]) := by
    refine set_ok (lst_ok (e1 := E4) (e2 := E4) (ds := T1) (consA_ok v5 (consA_ok mx (consA_ok rv (consA_ok li (consA_ok t1 (consA_ok pn (consA_ok (r := .sh .non) rfl nilA_ok))))))) ?_) ?_
    · rw [← hT1]
      rfl
    · rw [← hE4]
      rfl
  have T1l : T1.length = 7 := by rw [← hT1]; rfl
  generalize hE5 : [Ent.io (.lst h4), .sh (webD n l), .sh (webD n m), .sh (.int n), .sh (.lst (P.map eO)), .sh (eO o), .sh (.int (r : Nat)), .sh od, .own (.lst T1), .no, .no, .no, .no] = E5 at s4
  have x5 : varF 5 E5 = some (.ok (.sh (eO o)) E5) := by rw [← hE5]; rfl
  have x6 : varF 6 E5 = some (.ok (.sh (.int (r : Nat))) E5) := by rw [← hE5]; rfl
  have x7 : varF 7 E5 = some (.ok (.sh od) E5) := by rw [← hE5]; rfl
  have x3 : varF 3 E5 = some (.ok (.sh (.int n)) E5) := by rw [← hE5]; rfl
  have x8 : varF 8 E5 = some (.ok (.vr 8) E5) := by rw [← hE5]; rfl
  have p8 : peek E5 (.vr 8) = some (.lst T1) := by rw [← hE5]; rfl
  have u1 : slF (varF 5) noP (partF (varF 6)) E5 = some (.ok (.sh (.tup ((o.take r).map D.int))) E5) := by
    have := slT (fl := noP) (fh := partF (varF 6)) (xs := o.map D.int) (lo := none) (hi := some ((r : Nat) : Int)) x5 rfl (part_ok x6 rfl) rfl
    rw [cut_to, ← List.map_take] at this
    exact this
  have u2 : slF (varF 5) (partF (binF addD (varF 6) (shF (.int 1)))) noP E5 = some (.ok (.sh (.tup ((o.drop (r + 1)).map D.int))) E5) := by
    have := slT (fl := partF (binF addD (varF 6) (shF (.int 1)))) (fh := noP) (xs := o.map D.int) (lo := some ((r + 1 : Nat) : Int)) (hi := none) x5 (part_ok (bin_ok (da := .int (r : Nat)) (db := .int 1) x6 rfl rfl rfl (addI _ _)) rfl) rfl rfl
    rw [cut_from, ← List.map_drop] at this
    exact this
  have u3 : binF addD (binF addD (slF (varF 5) noP (partF (varF 6))) (tupF (consA (varF 7) nilA))) (slF (varF 5) (partF (binF addD (varF 6) (shF (.int 1)))) noP) E5 = some (.ok (.sh (oddT o r od)) E5) := by
    have q1 : addD (.tup ((o.take r).map D.int)) (.tup [od]) = some (.sh (.tup ((o.take r).map D.int ++ [od]))) := addT (by simp; omega)
    have q2 : addD (.tup ((o.take r).map D.int ++ [od])) (.tup ((o.drop (r + 1)).map D.int)) = some (.sh (oddT o r od)) := by rw [addT (by simp; omega)]; rfl
    exact bin_ok (bin_ok u1 (tup_ok (ds := [od]) (consA_ok x7 nilA_ok) rfl) rfl rfl q1) u2 rfl rfl q2
  have u4 : tupF (consA (varF 5) nilA) E5 = some (.ok (.sh (.tup [eO o])) E5) := tup_ok (consA_ok x5 nilA_ok) rfl
  have u5 : binF mulD (tupF (consA (lstF (consA (shF (.int 0)) nilA)) nilA)) (varF 3) E5 = some (.ok (.sh (.tup (List.replicate n (.lst [.int 0])))) E5) :=
    bin_ok (da := .tup [.lst [.int 0]]) (db := .int n) (tup_ok (ds := [.lst [.int 0]]) (consA_ok (r := .fr (.lst [.int 0])) rfl nilA_ok) rfl) x3 rfl rfl (mul_rep hn)
  generalize hT2 : [oddT o r od, .int 0, .dct [] [], .str "0", .tup [eO o], .tup (List.replicate n (.lst [.int 0]))] = T2
  have s5 : j5 E5 = some (.nx [.io (.lst h4), .sh (webD n l), .sh (webD n m), .sh (.int n), .sh (.lst (P.map eO)), .sh (eO o), .sh (.int (r : Nat)), .sh od, .own (.lst (T1 ++ T2)), .no, .no, .no, .no]) := by
    have q : addD (.lst T1) (.lst T2) = some (.fr (.lst (T1 ++ T2))) := addL (by rw [T1l, ← hT2]; simp)
    refine set_ok (bin_ok (db := .lst T2) x8 (lst_ok (e1 := E5) (e2 := E5) (ds := T2) (consA_ok u3 (consA_ok (r := .sh (.int 0)) rfl (consA_ok (r := .sh (.dct [] [])) rfl (consA_ok (r := .sh (.str "0")) rfl (consA_ok u4 (consA_ok u5 nilA_ok)))))) ?_) p8 rfl q) ?_
    · rw [← hT2]
      rfl
    · rw [← hE5]
      rfl
  have things : ∀ t ∈ T1 ++ T2, Thing n l m t := fun t ht => by
    have f1 : ∀ {t}, t ∈ famT n o → Thing n l m t := fun ht => fam_thing hn l m (hPm o ho) ht
    have fx : ∀ {t}, t ∈ [eO o, eO o.reverse, eO (o.drop 1), eO (o ++ [(n : Int)]), .tup [eO o], .tup (List.replicate n (.lst [.int 0]))] → Thing n l m t := fun ht => f1 (List.mem_append_left _ ht)
    rcases List.mem_append.mp ht with ht | ht
    · rw [← hT1] at ht
      simp only [List.mem_cons, List.not_mem_nil, or_false] at ht
      rcases ht with rfl | rfl | rfl | rfl | rfl | rfl | rfl
      · exact fx (by simp)
      · exact fam_thing hn l m o'p (eO_fam n o')
      · exact fx (by simp)
      · exact odd_thing l m rfl rfl
      · exact fx (by simp)
      · exact fx (by simp)
      · exact odd_thing l m rfl rfl
    · rw [← hT2] at ht
      simp only [List.mem_cons, List.not_mem_nil, or_false] at ht
      rcases ht with rfl | rfl | rfl | rfl | rfl | rfl
      · refine f1 (List.mem_append_right _ (List.mem_flatMap.mpr ⟨r, List.mem_range.mpr (by omega), List.mem_map.mpr ⟨od, hod, rfl⟩⟩))
      · exact odd_thing l m rfl rfl
      · exact odd_thing l m rfl rfl
      · exact odd_thing l m rfl rfl
      · exact fx (by simp)
      · exact fx (by simp)
  obtain ⟨e', hloop, er, rfl⟩ := jr_loop (S := S) hn things (fun t ht => hS t (things t ht).ty (things t ht).el) (e0 := .io (.lst h4)) (d3 := .int n) (d5 := eO o) (d6 := .int (r : Nat)) (d7 := od) (d8 := .lst (T1 ++ T2))
  rw [hPe] at hloop
  have s6 : j6 S [.io (.lst h4), .sh (webD n l), .sh (webD n m), .sh (.int n), .sh (.lst (P.map eO)), .sh (eO o), .sh (.int (r : Nat)), .sh od, .own (.lst (T1 ++ T2)), .no, .no, .no, .no] = some (.nx (.io (.lst h4) :: er)) :=
    for_ok (ops := [8]) rfl rfl hloop
  exact ⟨h4, H4, runI_rt rfl (seq_ok s1 (seq_ok s2 (seq_ok s3 (seq_ok s4 (seq_ok s5 (seq_ok s6 rfl)))))) rfl⟩
theorem ok_judged {n : Nat} (hn : 1 ≤ n ∧ n ≤ 4) {l m : List Pr} (w : WebP n l) (hm : m.length ≤ 1000000) (hP : (pm n).filter (okB l m) ≠ []) {h : List D} (H : HandP h) : ∃ h', HandP h' ∧ f__law_judged_right h [webD n l, webD n m, .int n, .lst (((pm n).filter (okB l m)).map eO)] = some (h', .sh (.bl true)) :=
  judged_run any_ok draw_ok mix_ok hn (fun t ty el => ok_is_shape_order hn w hm ty el) hP H
end K94
namespace K94
open PySem PySem.Spec L2 Ev Ma
theorem in_eOs (neg : Bool) (x : List Int) (f : List (List Int)) : inD neg (eO x) (.lst (f.map eO)) = some (xor neg (decide (x ∈ f))) := by
  obtain ⟨r, h1, h2⟩ := inD_tree neg (tree_eO x) (trees_map tree_eO f) (by have := hi_eO x; omega) (by have := his_map (f := eO) (n := 1) hi_eO f; omega)
  rw [h1]
  congr 2
  have : r = true ↔ x ∈ f := h2.trans ⟨fun h => by
    obtain ⟨y, hy, e⟩ := List.mem_map.mp h
    exact eO_inj e ▸ hy, fun h => List.mem_map.mpr ⟨x, h, rfl⟩⟩
  cases r with
  | true => exact (decide_eq_true (this.mp rfl)).symm
  | false => exact (decide_eq_false fun e => by have := this.mpr e; cases this).symm
theorem neD_same {a : D} (ha : tree a = true) (h1 : hi a ≤ 64) : neD a a = some false := by
  unfold neD
  rw [eqD_same ha h1]
  rfl
theorem ne_eO (x : List Int) : neD (eO x) (eO x) = some false := neD_same (tree_eO x) (by have := hi_eO x; omega)
theorem ne_eOs (f : List (List Int)) : neD (.lst (f.map eO)) (.lst (f.map eO)) = some false := by
  refine neD_same (by simp only [tree]; exact trees_map tree_eO f) ?_
  simp only [hi]
  have := his_map (f := eO) (n := 1) hi_eO f
  omega
theorem ne_same (a : Int) : neD (.int a) (.int a) = some false := by rw [ne_int]; simp
noncomputable def q1 (I : Fm) (M : Fi) : FS := (parF 3 4 (mkF 0 I (consA (varF 1) (consA (varF 2) nilA))) (clF tupleD (consA (ioF 0 M (consA (unF lrgD (varF 1)) nilA)) nilA)))
noncomputable def q2 (C : Fn) : FS := (setF 5 (caF C (consA (varF 2) (consA (varF 4) nilA))))
noncomputable def q3 (W : Fn) (I : Fm) : FS := (ifS (cmpT (neIns 0 2) (caF W (consA (varF 3) (consA (varF 4) nilA))) (mkF 0 I (consA (varF 1) (consA (varF 5) nilA)))) (retF (shF (.bl false))) nxF)
noncomputable def q4 (I : Fm) (M : Fi) : FS := (setF 6 (mkF 0 I (consA (varF 1) (consA (clF tupleD (consA (ioF 0 M (consA (clF listD (consA (varF 5) nilA)) nilA)) nilA)) nilA))))
noncomputable def q5 (S : Fn) : FS := (parF 7 8 (caF S (consA (varF 1) (consA (varF 2) (consA (varF 5) nilA)))) (caF S (consA (varF 1) (consA (varF 2) (consA (varF 2) nilA)))))
noncomputable def q6 (B O : Fn) : FS := (ifS (orT (cmpT neD (caF B (consA (varF 3) (consA (varF 6) nilA))) (binF ixD (varF 7) (shF (.int 0)))) (orT (cmpT neD (caF O (consA (varF 3) nilA)) (varF 8)) (cmpT neD (clF lenD (consA (varF 7) nilA)) (clF lenD (consA (varF 8) nilA))))) (retF (shF (.bl false))) nxF)
noncomputable def q7 (O : Fn) : FS := (ifS (orT (cmpT (inD true) (clF tupleD (consA (unF lrgD (varF 1)) nilA)) (varF 8)) (cmpT neD (clF lenD (consA (caF O (consA (varF 6) nilA)) nilA)) (clF lenD (consA (varF 8) nilA)))) (retF (shF (.bl false))) nxF)
noncomputable def q8 (K : Fn) (J : Fi) : FS := (retF (andF (clF allD (consA (compF true [9] (seqI (slF (varF 8) noP (partF (shF (.int 3))))) (gnF 9) yesT (binF (oBl (isD false)) (caF K (consA (varF 3) (consA (varF 9) nilA))) (shF (.bl true)))) nilA)) (ioF 0 J (consA (varF 3) (consA (varF 6) (consA (varF 1) (consA (varF 7) nilA)))))))
theorem orders_run {I : Fm} {M J : Fi} {C W S B O K : Fn} (hM : MixOk M) {n : Nat} (hn : 1 ≤ n ∧ n ≤ 4) {l : List Pr} (w : WebP n l)
    (hI : ∀ m, WebP n m → I [.int n, eL m] = some [.int n, eL m])
    (hC : ∀ o, OrdP n o → C [eL l, eO o] = some (.ok (.sh (eL (srt (l.map (ap o)))))))
    (hW : ∀ o, OrdP n o → W [webD n l, eO o] = some (.ok (.sh (webD n (srt (l.map (ap o)))))))
    (hS : ∀ m : List Pr, m.length ≤ 1000000 → S [.int n, eL l, eL m] = some (.ok (.fr (.lst (((pm n).filter (okB l m)).map eO)))))
    (hB : ∀ m : List Pr, m.length ≤ 1000000 → B [webD n l, webD n m] = some (.ok (.sh (orNon (if n = n ∧ l.length = m.length then (pm n).find? (okB l m) else none)))))
    (hO : ∀ m, WebP n m → O [webD n m] = some (.ok (.fr (.lst (((pm n).filter (okB m m)).map eO)))))
    (hK : ∀ o, OrdP n o → K [webD n l, eO o] = some (.ok (.sh (.bl true))))
    (hJ : ∀ m h, HandP h → m.length ≤ 1000000 → (pm n).filter (okB l m) ≠ [] → ∃ h', HandP h' ∧ J h [webD n l, webD n m, .int n, .lst (((pm n).filter (okB l m)).map eO)] = some (h', .sh (.bl true)))
    {h : List D} (H : HandP h) : ∃ h', HandP h' ∧ runI 3 10 (seqF (q1 I M) (seqF (q2 C) (seqF (q3 W I) (seqF (q4 I M) (seqF (q5 S) (seqF (q6 B O) (seqF (q7 O) (q8 K J)))))))) h [.int n, eL l] = some (h', .sh (.bl true)) := by
  obtain ⟨h1, o, H1, po, a1⟩ := hM.ints H (f := D.int) (rngI n) (by simp [rngI]; omega)
  have op := rng_ord n po
  have wl := w.len
  generalize hth : srt (l.map (ap o)) = th at *
  have pth : (l.map (ap o)).Perm th := by rw [← hth]; exact (srt_perm _).symm
  have wth : WebP n th := (w.ap op).perm pth
  obtain ⟨h2, m, H2, pm', a2⟩ := hM.ints H1 (f := eA) th (by have := wth.len; omega)
  have wm : WebP n m := wth.perm pm'.symm
  have ml : m.length ≤ 1000000 := Nat.le_trans wm.len (by decide)
  have plm : (l.map (ap o)).Perm m := pth.trans pm'.symm
  have okm : okB l m = okB l th := funext fun x => okB_perm (List.Perm.refl l) pm' x
  have hP1 : (pm n).filter (okB l m) = (pm n).filter (okB l th) := by rw [okm]
  obtain ⟨p0, P, hP⟩ : ∃ p0 P, (pm n).filter (okB l m) = p0 :: P := by
    have : o ∈ (pm n).filter (okB l m) := List.mem_filter.mpr ⟨in_pm hn op, okB_iff.mpr plm⟩
    cases k : (pm n).filter (okB l m) with
    | nil => rw [k] at this; cases this
    | cons a b => exact ⟨a, b, rfl⟩
  have hll : l.length = m.length := by rw [← plm.length_eq, List.length_map]
  have hfind : (if n = n ∧ l.length = m.length then (pm n).find? (okB l m) else none) = some p0 := by
    rw [if_pos ⟨rfl, hll⟩, find_filter, hP]
    rfl
  have lenP : (p0 :: P).length = ((pm n).filter (okB l l)).length := by rw [← hP]; exact same_many hn w.inr op plm
  have lenM : ((pm n).filter (okB m m)).length = ((pm n).filter (okB l l)).length := same_own hn w.inr op plm
  generalize hOw : (pm n).filter (okB l l) = Ow at *
  have Owp : ∀ x ∈ Ow, OrdP n x := fun x hx => by rw [← hOw] at hx; exact pm_ord hn.2 (List.mem_filter.mp hx).1
  have Owl : Ow.length ≤ 24 := by rw [← hOw]; exact Nat.le_trans (List.length_filter_le _ _) (len_pm n hn.2)
  have rin : rngI n ∈ Ow := by rw [← hOw]; exact rng_own hn w.inr
  have lrg : lrgD (.int n) = some (.fr (.lst ((rngI n).map D.int))) := by rw [rngd_ok n (by omega), rng_map]
  have lrgE : ∀ {env : List Ent}, varF 1 env = some (.ok (.sh (.int n)) env) → unF lrgD (varF 1) env = some (.ok (.fr (.lst ((rngI n).map D.int))) env) := fun hv => un_ok (da := .int n) hv rfl lrg
  have s1 : q1 I M [.io (.lst h), .sh (.int n), .sh (eL l), .no, .no, .no, .no, .no, .no, .no] = some (.nx [.io (.lst h1), .sh (.int n), .sh (eL l), .sh (webD n l), .sh (eO o), .no, .no, .no, .no, .no]) := by
    refine par_ok (e1 := [.io (.lst h), .sh (.int n), .sh (eL l), .no, .no, .no, .no, .no, .no, .no]) (e2 := [.io (.lst h1), .sh (.int n), .sh (eL l), .no, .no, .no, .no, .no, .no, .no]) (ra := .sh (webD n l)) (rb := .sh (eO o)) (mk_ok (cl := 0) (ds := [.int n, eL l]) (consA_ok rfl (consA_ok rfl nilA_ok)) rfl (hI l w)) ?_ rfl
    refine cl_ok (rs := [.sh (.lst (o.map D.int))]) (ds := [.lst (o.map D.int)]) (consA_ok (r := .fr (.lst (o.map D.int))) ?_ nilA_ok) rfl rfl
    exact io_ok (i := 0) (e1 := [.io (.lst h), .sh (.int n), .sh (eL l), .no, .no, .no, .no, .no, .no, .no]) (e2 := [.io (.lst h), .sh (.int n), .sh (eL l), .no, .no, .no, .no, .no, .no, .no]) (rs := [.sh (.lst ((rngI n).map D.int))]) (ds := [.lst ((rngI n).map D.int)]) rfl (consA_ok (lrgE rfl) nilA_ok) rfl rfl a1
  have s2 : q2 C [.io (.lst h1), .sh (.int n), .sh (eL l), .sh (webD n l), .sh (eO o), .no, .no, .no, .no, .no] = some (.nx [.io (.lst h1), .sh (.int n), .sh (eL l), .sh (webD n l), .sh (eO o), .sh (eL th), .no, .no, .no, .no]) :=
    set_ok (ca_ok (r := .sh (eL th)) (ds := [eL l, eO o]) (consA_ok rfl (consA_ok rfl nilA_ok)) rfl (by rw [hC o op, hth]) (free_eL th)) rfl
  have ne1 : neIns 0 2 (webD n th) (webD n th) = some false := by
    unfold neIns
    rw [eq_web]
    simp
  have s3 : q3 W I [.io (.lst h1), .sh (.int n), .sh (eL l), .sh (webD n l), .sh (eO o), .sh (eL th), .no, .no, .no, .no] = some (.nx [.io (.lst h1), .sh (.int n), .sh (eL l), .sh (webD n l), .sh (eO o), .sh (eL th), .no, .no, .no, .no]) :=
    if_f (cmp_ok (da := webD n th) (db := webD n th) (ca_st (ds := [webD n l, eO o]) (r := .sh (webD n th)) (consA_ok rfl (consA_ok rfl nilA_ok)) rfl (by rw [hW o op, hth]) rfl rfl) (mk_ok (cl := 0) (ds := [.int n, eL th]) (consA_ok rfl (consA_ok rfl nilA_ok)) rfl (hI th wth)) rfl rfl ne1) rfl
  have s4 : q4 I M [.io (.lst h1), .sh (.int n), .sh (eL l), .sh (webD n l), .sh (eO o), .sh (eL th), .no, .no, .no, .no] = some (.nx [.io (.lst h2), .sh (.int n), .sh (eL l), .sh (webD n l), .sh (eO o), .sh (eL th), .sh (webD n m), .no, .no, .no]) := by
    have k1 : ioF 0 M (consA (clF listD (consA (varF 5) nilA)) nilA) [.io (.lst h1), .sh (.int n), .sh (eL l), .sh (webD n l), .sh (eO o), .sh (eL th), .no, .no, .no, .no] = some (.ok (.fr (.lst (m.map eA))) [.io (.lst h2), .sh (.int n), .sh (eL l), .sh (webD n l), .sh (eO o), .sh (eL th), .no, .no, .no, .no]) :=
      io_ok (i := 0) (e1 := [.io (.lst h1), .sh (.int n), .sh (eL l), .sh (webD n l), .sh (eO o), .sh (eL th), .no, .no, .no, .no]) (e2 := [.io (.lst h1), .sh (.int n), .sh (eL l), .sh (webD n l), .sh (eO o), .sh (eL th), .no, .no, .no, .no]) (rs := [.sh (.lst (th.map eA))]) (ds := [.lst (th.map eA)]) rfl rfl rfl rfl a2
    exact set_ok (mk_ok (cl := 0) (f := I) (ds := [.int n, eL m]) (consA_ok (r := .sh (.int n)) rfl (consA_ok (r := .sh (eL m)) (cl_ok (f := tupleD) (consA_ok k1 nilA_ok) rfl rfl) nilA_ok)) rfl (hI m wm)) rfl
  have s5 : q5 S [.io (.lst h2), .sh (.int n), .sh (eL l), .sh (webD n l), .sh (eO o), .sh (eL th), .sh (webD n m), .no, .no, .no] = some (.nx [.io (.lst h2), .sh (.int n), .sh (eL l), .sh (webD n l), .sh (eO o), .sh (eL th), .sh (webD n m), .own (.lst ((p0 :: P).map eO)), .own (.lst (Ow.map eO)), .no]) := by
    have c1 := hS th (Nat.le_trans wth.len (by decide))
    rw [← hP1, hP] at c1
    have c2 := hS l (by omega)
    rw [hOw] at c2
    exact par_ok (ca_ok (ds := [.int n, eL l, eL th]) (consA_ok rfl (consA_ok rfl (consA_ok rfl nilA_ok))) rfl c1 (free_eO _)) (ca_ok (ds := [.int n, eL l, eL l]) (consA_ok rfl (consA_ok rfl (consA_ok rfl nilA_ok))) rfl c2 (free_eO _)) rfl
  generalize hE : [Ent.io (.lst h2), .sh (.int n), .sh (eL l), .sh (webD n l), .sh (eO o), .sh (eL th), .sh (webD n m), .own (.lst ((p0 :: P).map eO)), .own (.lst (Ow.map eO)), .no] = E at s5
  have v1 : varF 1 E = some (.ok (.sh (.int n)) E) := by rw [← hE]; rfl
  have v3 : varF 3 E = some (.ok (.sh (webD n l)) E) := by rw [← hE]; rfl
  have v6 : varF 6 E = some (.ok (.sh (webD n m)) E) := by rw [← hE]; rfl
  have v7 : varF 7 E = some (.ok (.vr 7) E) := by rw [← hE]; rfl
  have v8 : varF 8 E = some (.ok (.vr 8) E) := by rw [← hE]; rfl
  have p7 : peek E (.vr 7) = some (.lst ((p0 :: P).map eO)) := by rw [← hE]; rfl
  have p8 : peek E (.vr 8) = some (.lst (Ow.map eO)) := by rw [← hE]; rfl
  have len7 : clF lenD (consA (varF 7) nilA) E = some (.ok (.sh (.int (((p0 :: P).map eO).length : Nat))) E) := cl_ok (ds := [.lst ((p0 :: P).map eO)]) (consA_ok v7 nilA_ok) (by simp only [peeks, Val.norm, p7]) (lenL _)
  have len8 : clF lenD (consA (varF 8) nilA) E = some (.ok (.sh (.int ((Ow.map eO).length : Nat))) E) := cl_ok (ds := [.lst (Ow.map eO)]) (consA_ok v8 nilA_ok) (by simp only [peeks, Val.norm, p8]) (lenL _)
  have s6 : q6 B O E = some (.nx E) := by
    have cB := hB m ml
    rw [hfind] at cB
    have cO := hO l w
    rw [hOw] at cO
    have ix0 : ixD (.lst ((p0 :: P).map eO)) (.int 0) = some (.sh (eO p0)) := ix_f (f := p0 :: P) (at_ := 0) rfl
    refine if_f (or_f (cmp_ok (da := eO p0) (db := eO p0) (ca_ok (ds := [webD n l, webD n m]) (consA_ok v3 (consA_ok v6 nilA_ok)) rfl cB ?_) (bin_ok (da := .lst ((p0 :: P).map eO)) (db := .int 0) v7 rfl p7 rfl ix0) rfl rfl (ne_eO p0)) (or_f (cmp_ok (da := .lst (Ow.map eO)) (db := .lst (Ow.map eO)) (ca_ok (ds := [webD n l]) (consA_ok v3 nilA_ok) rfl cO (free_eO _)) v8 rfl p8 (ne_eOs _)) (cmp_ok (da := .int ((Ow.map eO).length : Nat)) (db := .int ((Ow.map eO).length : Nat)) len7 len8 ?_ rfl (ne_same _)))) rfl
    · have := lstFrees_ints p0
      simp only [orNon, lstFreeV, eO, lstFree]
      exact this
    · rw [List.length_map, List.length_map, lenP]
      rfl
  have s7 : q7 O E = some (.nx E) := by
    have cO := hO m wm
    have hin := in_eOs true (rngI n) Ow
    rw [decide_eq_true rin] at hin
    refine if_f (or_f (cmp_ok (da := eO (rngI n)) (db := .lst (Ow.map eO)) (cl_ok (f := tupleD) (consA_ok (lrgE v1) nilA_ok) rfl rfl) v8 rfl p8 hin) (cmp_ok (da := .int ((Ow.map eO).length : Nat)) (db := .int ((Ow.map eO).length : Nat)) (cl_ok (f := lenD) (ds := [.lst (((pm n).filter (okB m m)).map eO)]) (consA_ok (ca_ok (ds := [webD n m]) (consA_ok v6 nilA_ok) rfl cO (free_eO _)) nilA_ok) rfl (lenL _)) len8 ?_ rfl (ne_same _))) rfl
    rw [List.length_map, List.length_map, lenM]
    rfl
  obtain ⟨h3, H3, cJ⟩ := hJ m h2 H2 ml (by rw [hP]; simp)
  rw [hP] at cJ
  have s8 : ∃ e', q8 K J E = some (.rt (.sh (.bl true)) (.io (.lst h3) :: e')) := by
    have sl := slL (fa := varF 8) (fl := noP) (fh := partF (shF (.int 3))) (lo := none) (hi := some ((3 : Nat) : Int)) v8 rfl (part_ok (r := .sh (.int 3)) rfl rfl) p8
    rw [cut_to, ← List.map_take] at sl
    have c := comp1 (i := 9) (env := E) (tt := yesT) (fe := binF (oBl (isD false)) (caF K (consA (varF 3) (consA (varF 9) nilA))) (shF (.bl true))) (t := fun _ => true) (h := fun _ => .bl true) (seqI_ok sl (.inl rfl)) (by rw [← hE]; exact .inl rfl) (by rw [List.length_map, List.length_take]; omega) (fun d hd => by
      obtain ⟨x, hx, rfl⟩ := List.mem_map.mp hd
      have xo := Owp x (List.mem_of_mem_take hx)
      refine ⟨rfl, fun _ => ⟨_, ?_, .inl rfl⟩⟩
      have u3 : varF 3 (E.set 9 (.sh (eO x))) = some (.ok (.sh (webD n l)) (E.set 9 (.sh (eO x)))) := by rw [← hE]; rfl
      have u9 : varF 9 (E.set 9 (.sh (eO x))) = some (.ok (.sh (eO x)) (E.set 9 (.sh (eO x)))) := by rw [← hE]; rfl
      exact bl_ok (da := .bl true) (db := .bl true) (ca_ok (ds := [webD n l, eO x]) (consA_ok u3 (consA_ok u9 nilA_ok)) rfl (hK x xo) rfl) rfl rfl rfl rfl)
    rw [filter_true] at c
    have al : allD [.lst (((Ow.take 3).map eO).map fun _ => D.bl true)] = some (.sh (.bl true)) := by
      have e : ((Ow.take 3).map eO).map (fun _ => D.bl true) = (Ow.take 3).map fun _ => D.bl true := by rw [List.map_map]; rfl
      have b := blsOf_map (f := fun _ : List Int => true) (Ow.take 3)
      have q : (((Ow.take 3).map fun _ => true).all id) = true := by rw [List.all_map, List.all_eq_true]; intro x _; rfl
      rw [e]
      unfold allD on1
      dsimp only
      rw [b, Option.map_some, q]
    have c2 := cl_ok (f := allD) (consA_ok c nilA_ok) rfl al
    refine ⟨[.sh (.int n), .sh (eL l), .sh (webD n l), .sh (eO o), .sh (eL th), .sh (webD n m), .sh (.lst ((p0 :: P).map eO)), .own (.lst (Ow.map eO)), .no], ret_ok (and_F1 c2 ?_)⟩
    rw [← hE]
    exact io_ok (i := 0) (rs := [.sh (webD n l), .sh (webD n m), .sh (.int n), .vr 7]) (ds := [webD n l, webD n m, .int n, .lst ((p0 :: P).map eO)]) (e1 := [.io (.lst h2), .sh (.int n), .sh (eL l), .sh (webD n l), .sh (eO o), .sh (eL th), .sh (webD n m), .own (.lst ((p0 :: P).map eO)), .own (.lst (Ow.map eO)), .no]) (e2 := [.io (.lst h2), .sh (.int n), .sh (eL l), .sh (webD n l), .sh (eO o), .sh (eL th), .sh (webD n m), .sh (.lst ((p0 :: P).map eO)), .own (.lst (Ow.map eO)), .no]) rfl rfl rfl rfl cJ
  obtain ⟨e', s8⟩ := s8
  exact ⟨h3, H3, runI_rt rfl (seq_ok s1 (seq_ok s2 (seq_ok s3 (seq_ok s4 (seq_ok s5 (seq_ok s6 (seq_ok s7 s8))))))) rfl⟩
theorem ok_orders_right {n : Nat} (hn : 1 ≤ n ∧ n ≤ 4) {l : List Pr} (w : WebP n l) {h : List D} (H : HandP h) : ∃ h', HandP h' ∧ f__law_orders_right h [.int n, eL l] = some (h', .sh (.bl true)) :=
  orders_run mix_ok hn w (fun m hm => hm.init) (fun o op => ok_called (Nat.le_trans w.len (by decide)) (w.rng op)) (fun o op => ok_with_places w op) (fun m hm => ok_law_shape_orders hn w hm) (fun m hm => ok_shape_order hn w hm) (fun m wm => ok_own_orders hn wm) (fun o op => ok_form_is_kept hn w op) (fun m h H hm hP => ok_judged hn w hm hP H) H
end K94
namespace K94
open PySem PySem.Spec L2 Ev Ma
/-! ### one arrow turned, unless a round comes -/
theorem mem_insD (x y : Int) : ∀ l : List Int, y ∈ insD x l ↔ y = x ∨ y ∈ l
  | [] => by simp [insD]
  | z :: l => by
    unfold insD
    split
    · simp
    · split
      · rename_i h; subst h; simp
      · rw [List.mem_cons, mem_insD x y l, List.mem_cons]
        exact ⟨fun h => by rcases h with h | h | h <;> simp [h], fun h => by rcases h with h | h | h <;> simp [h]⟩
theorem mem_dsort (y : Int) : ∀ l : List Int, y ∈ dsort l ↔ y ∈ l
  | [] => by simp [dsort]
  | x :: l => by unfold dsort; rw [mem_insD, mem_dsort y l, List.mem_cons]
/-- what holds on the way: what is out has its rank -/
def Rk (m : List Pr) (left : List Int) : Prop := ∃ (r : Int → Int) (t : Int), (∀ p, p ∉ left → r p < t) ∧ ∀ q ∈ m, q.2 ∉ left → q.1 ∉ left ∧ r q.1 < r q.2
def frees (m : List Pr) (left : List Int) : List Int := left.filter fun p => !hot m left p
def lefts (m : List Pr) (left : List Int) : List Int := left.filter fun p => !decide (p ∈ frees m left)
theorem Rk.step {m : List Pr} {left : List Int} (h : Rk m left) : Rk m (lefts m left) := by
  obtain ⟨r, t, h1, h2⟩ := h
  have inF : ∀ p, p ∈ frees m left → p ∈ left := fun p hp => (List.mem_filter.mp hp).1
  have mL : ∀ p, p ∈ lefts m left ↔ p ∈ left ∧ p ∉ frees m left := fun p => by
    unfold lefts
    rw [List.mem_filter]
    simp
  refine ⟨fun p => if p ∈ frees m left then t else r p, t + 1, fun p hp => ?_, fun q hq hn => ?_⟩
  · by_cases k : p ∈ frees m left
    · simp only [k, if_true]; omega
    · simp only [k, if_false]
      have := h1 p fun z => hp ((mL p).mpr ⟨z, k⟩)
      omega
  · by_cases k : q.2 ∈ frees m left
    · have nh : hot m left q.2 = false := by simpa using (List.mem_filter.mp k).2
      have n1 : q.1 ∉ left := fun z => by
        have : hot m left q.2 = true := List.any_eq_true.mpr ⟨q, hq, by simp [z]⟩
        rw [this] at nh
        cases nh
      have nf : q.1 ∉ frees m left := fun z => n1 (inF _ z)
      refine ⟨fun z => n1 ((mL _).mp z).1, ?_⟩
      simp only [k, nf, if_true, if_false]
      exact h1 _ n1
    · have n2 : q.2 ∉ left := fun z => hn ((mL _).mpr ⟨z, k⟩)
      obtain ⟨n1, lt⟩ := h2 q hq n2
      have nf : q.1 ∉ frees m left := fun z => n1 (inF _ z)
      refine ⟨fun z => n1 ((mL _).mp z).1, ?_⟩
      simp only [k, nf, if_false]
      exact lt
theorem Rk.acyc {m : List Pr} (h : Rk m []) : Acyc m := by
  obtain ⟨r, t, h1, h2⟩ := h
  exact ⟨r, fun q hq => (h2 q hq (by simp)).2⟩
theorem lefts_le {m : List Pr} {left : List Int} (h : frees m left ≠ []) : (lefts m left).length < left.length := by
  obtain ⟨p, hp⟩ := List.exists_mem_of_ne_nil _ h
  have pl : p ∈ left := (List.mem_filter.mp hp).1
  unfold lefts
  have h1 : (left.filter fun p => !decide (p ∈ frees m left)).length ≤ left.length := List.length_filter_le _ _
  rcases Nat.lt_or_eq_of_le h1 with h2 | h2
  · exact h2
  · have := List.length_filter_eq_length_iff.mp h2 p pl
    simp [hp] at this
noncomputable def le_t : FT := (truF (varF 4))
noncomputable def le_b : FS := (seqF (setF 5 (compF true [6] (seqI (varF 3)) (gnF 6) (notT (truF (clF anyD (consA (compF true [8, 9] (seqI (varF 2)) (gtF (gconsF (gnF 8) (gconsF (gnF 9) gnilF))) (cmpT eqD (varF 9) (varF 6)) (binF (oBl (inD false)) (varF 8) (varF 3))) nilA)))) (varF 6)))
    (seqF (setF 3 (compF true [6] (seqI (varF 3)) (gnF 6) (cmpT (inD true) (varF 6) (varF 5)) (varF 6)))
    (setF 4 (binF (oBl (cm2 fun i j => decide (j < i))) (clF lenD (consA (varF 5) nilA)) (shF (.int 0))))))
abbrev leE (L at_ : D) (m : List Pr) (left : List Int) (on : Bool) (e5 : Ent) : List Ent := [.sh L, .sh at_, .own (.lst (m.map eA)), .own (.lst (left.map D.int)), .sh (.bl on), e5, .no, .no, .no, .no]
theorem le_any {L at_ : D} {m : List Pr} {left : List Int} {on : Bool} {e5 : Ent} (hl : m.length ≤ 1000) (p : Int) :
    compF true [8, 9] (seqI (varF 2)) (gtF (gconsF (gnF 8) (gconsF (gnF 9) gnilF))) (cmpT eqD (varF 9) (varF 6)) (binF (oBl (inD false)) (varF 8) (varF 3)) [.sh L, .sh at_, .own (.lst (m.map eA)), .own (.lst (left.map D.int)), .sh (.bl on), e5, .sh (.int p), .no, .no, .no] = some (.ok (.fr (.lst (((m.filter fun q => decide (q.2 = p)).map fun q => D.bl (decide (q.1 ∈ left)))))) [.sh L, .sh at_, .own (.lst (m.map eA)), .own (.lst (left.map D.int)), .sh (.bl on), e5, .sh (.int p), .no, .no, .no]) := by
  have hc := comp2 (j := 8) (k := 9) (by decide) (env := [.sh L, .sh at_, .own (.lst (m.map eA)), .own (.lst (left.map D.int)), .sh (.bl on), e5, .sh (.int p), .no, .no, .no]) (it := seqI (varF 2)) (tt := cmpT eqD (varF 9) (varF 6)) (fe := binF (oBl (inD false)) (varF 8) (varF 3)) (ops := [2]) (ds := m.map eA) (x := fun d => .int (fst2 d)) (y := fun d => .int (snd2 d)) (t := fun d => decide (snd2 d = p)) (h := fun d => .bl (decide (fst2 d ∈ left))) rfl (.inl rfl) (.inl rfl) (by rw [List.length_map]; omega) (fun d hd => by
    obtain ⟨q, hq, rfl⟩ := List.mem_map.mp hd
    refine ⟨rfl, cmp_ok (da := .int q.2) (db := .int p) rfl rfl rfl rfl (eqD_int _ _), fun _ => ⟨_, bl_ok (da := .int q.1) (db := .lst (left.map D.int)) rfl rfl rfl rfl ?_, .inl rfl⟩⟩
    rw [inD_lints, Bool.false_xor]
    rfl)
  rw [hc, List.filter_map, List.map_map]
  rfl
theorem le_step {L at_ : D} {m : List Pr} {left : List Int} (hl : m.length ≤ 1000) (hl2 : left.length ≤ 1000) {e5 : Ent} (o5 : e5 = .no ∨ ∃ d, e5 = .own d) : le_b (leE L at_ m left true e5) = some (.nx (leE L at_ m (lefts m left) (decide (0 < (frees m left).length)) (.own (.lst ((frees m left).map D.int))))) := by
  have f5 : free (leE L at_ m left true e5) 5 = true := by rcases o5 with rfl | ⟨d, rfl⟩ <;> rfl
  have c1 := comp1 (i := 6) (env := leE L at_ m left true e5) (it := seqI (varF 3)) (tt := notT (truF (clF anyD (consA (compF true [8, 9] (seqI (varF 2)) (gtF (gconsF (gnF 8) (gconsF (gnF 9) gnilF))) (cmpT eqD (varF 9) (varF 6)) (binF (oBl (inD false)) (varF 8) (varF 3))) nilA)))) (fe := varF 6) (ops := [3]) (ds := left.map D.int) (t := fun d => !hot m left (intOf d)) (h := fun d => d) rfl (.inl rfl) (by rw [List.length_map]; omega) (fun d hd => by
    obtain ⟨p, _, rfl⟩ := List.mem_map.mp hd
    refine ⟨?_, fun _ => ⟨_, rfl, .inl rfl⟩⟩
    have c := le_any (L := L) (at_ := at_) (left := left) (on := true) (e5 := e5) hl p
    have a : anyD [.lst ((m.filter fun q => decide (q.2 = p)).map fun q => D.bl (decide (q.1 ∈ left)))] = some (.sh (.bl (hot m left p))) := by
      unfold anyD on1
      dsimp only
      rw [blsOf_map, Option.map_some, List.any_map, List.any_filter]
      rfl
    exact not_ok (tru_ok (cl_ok (consA_ok c nilA_ok) rfl a) rfl rfl))
  rw [List.map_id', List.filter_map] at c1
  have e1 : left.filter ((fun d => !hot m left (intOf d)) ∘ D.int) = frees m left := rfl
  rw [e1] at c1
  have s1 : setF 5 (compF true [6] (seqI (varF 3)) (gnF 6) (notT (truF (clF anyD (consA (compF true [8, 9] (seqI (varF 2)) (gtF (gconsF (gnF 8) (gconsF (gnF 9) gnilF))) (cmpT eqD (varF 9) (varF 6)) (binF (oBl (inD false)) (varF 8) (varF 3))) nilA)))) (varF 6)) (leE L at_ m left true e5) = some (.nx (leE L at_ m left true (.own (.lst ((frees m left).map D.int))))) := by
    refine set_ok c1 ?_
    unfold put
    dsimp only
    rw [if_pos f5]
    rfl
  have c2 := comp1 (i := 6) (env := leE L at_ m left true (.own (.lst ((frees m left).map D.int)))) (it := seqI (varF 3)) (tt := cmpT (inD true) (varF 6) (varF 5)) (fe := varF 6) (ops := [3]) (ds := left.map D.int) (t := fun d => !decide (intOf d ∈ frees m left)) (h := fun d => d) rfl (.inl rfl) (by rw [List.length_map]; omega) (fun d hd => by
    obtain ⟨p, _, rfl⟩ := List.mem_map.mp hd
    refine ⟨?_, fun _ => ⟨_, rfl, .inl rfl⟩⟩
    refine cmp_ok (da := .int p) (db := .lst ((frees m left).map D.int)) rfl rfl rfl rfl ?_
    rw [inD_lints, Bool.true_xor]
    rfl)
  rw [List.map_id', List.filter_map] at c2
  have e2 : left.filter ((fun d => !decide (intOf d ∈ frees m left)) ∘ D.int) = lefts m left := rfl
  rw [e2] at c2
  have s2 : setF 3 (compF true [6] (seqI (varF 3)) (gnF 6) (cmpT (inD true) (varF 6) (varF 5)) (varF 6)) (leE L at_ m left true (.own (.lst ((frees m left).map D.int)))) = some (.nx (leE L at_ m (lefts m left) true (.own (.lst ((frees m left).map D.int))))) := set_ok c2 rfl
  have s3 : setF 4 (binF (oBl (cm2 fun i j => decide (j < i))) (clF lenD (consA (varF 5) nilA)) (shF (.int 0))) (leE L at_ m (lefts m left) true (.own (.lst ((frees m left).map D.int)))) = some (.nx (leE L at_ m (lefts m left) (decide (0 < (frees m left).length)) (.own (.lst ((frees m left).map D.int))))) := by
    refine set_ok (r := .sh (.bl (decide (0 < (frees m left).length)))) (bl_ok (da := .int (((frees m left).map D.int).length : Nat)) (db := .int 0) (cl_ok (ds := [.lst ((frees m left).map D.int)]) (consA_ok rfl nilA_ok) rfl (lenL _)) rfl rfl rfl ?_) rfl
    show some (decide ((0 : Int) < (((frees m left).map D.int).length : Nat))) = _
    rw [List.length_map]
    congr 1
    by_cases h : 0 < (frees m left).length
    · rw [decide_eq_true h, decide_eq_true (by omega)]
    · rw [decide_eq_false h, decide_eq_false (by omega)]
  exact seq_ok s1 (seq_ok s2 s3)
theorem le_while {L at_ : D} {m : List Pr} {left : List Int} (hl : m.length ≤ 1000) (hl2 : left.length ≤ 1000) (hr : Rk m left) : ∃ e', whileF le_t le_b (leE L at_ m left true .no) = some (.nx e') ∧ ∃ left' e5, e' = leE L at_ m left' false e5 ∧ Rk m left' :=
  while_run (t := le_t) (b := le_b) (S := fun e => ∃ left' e5, e = leE L at_ m left' false e5 ∧ Rk m left')
    (fun k e => ∃ left on e5, e = leE L at_ m left on e5 ∧ (e5 = .no ∨ ∃ d, e5 = .own d) ∧ Rk m left ∧ left.length ≤ 1000 ∧ k = 2 * left.length + on.toNat) (fun k e he => by
      obtain ⟨left, on, e5, rfl, o5, hr, hl2, hk⟩ := he
      cases on with
      | false => exact .inl ⟨_, rfl, left, e5, rfl, hr⟩
      | true =>
        refine .inr ⟨_, _, _, rfl, le_step hl hl2 o5, ?_, _, _, _, rfl, .inr ⟨_, rfl⟩, hr.step, Nat.le_trans (List.length_filter_le _ _) hl2, rfl⟩
        by_cases h : frees m left = []
        · have h1 : (lefts m left).length ≤ left.length := List.length_filter_le _ _
          rw [h]
          simp at hk ⊢
          omega
        · have h1 := lefts_le h
          have h2 : (decide (0 < (frees m left).length)).toNat ≤ 1 := Bool.toNat_le _
          simp at hk
          omega) (n := 2 * left.length + 1) (e := leE L at_ m left true .no) ⟨left, true, .no, rfl, .inl rfl, hr, hl2, rfl⟩
def flipAt (l : List Pr) (k : Nat) (q : Pr) : List Pr := l.take k ++ [(q.2, q.1)] ++ l.drop (k + 1)
noncomputable def le1 : FS := (setF 2 (binF addD (binF addD (slF (varF 0) noP (partF (varF 1))) (lstF (consA (unF revD (binF ixD (varF 0) (varF 1))) nilA))) (slF (varF 0) (partF (binF addD (varF 1) (shF (.int 1)))) noP)))
noncomputable def le2 : FS := (parF 3 4 (unF sosD (unF sumLD (compF true [7] (seqI (varF 2)) (gnF 7) yesT (clF listD (consA (varF 7) nilA))))) (shF (.bl true)))
noncomputable def le4 : FS := (retF (ifF (cmpT eqD (clF lenD (consA (varF 3) nilA)) (shF (.int 0))) (varF 2) (varF 0)))
theorem lstsOf_pairs : ∀ m : List Pr, lstsOf (m.map fun q => D.lst [.int q.1, .int q.2]) = some (m.map fun q => [D.int q.1, .int q.2])
  | [] => rfl
  | q :: m => by simp only [List.map_cons, lstsOf, lstsOf_pairs m]; rfl
theorem flat_pairs : ∀ m : List Pr, (m.map fun q => [D.int q.1, D.int q.2]).flatten = (m.flatMap fun q => [q.1, q.2]).map D.int
  | [] => rfl
  | q :: m => by simp [flat_pairs m]
theorem sum_pairs : ∀ m : List Pr, ((m.map fun q => [D.int q.1, D.int q.2]).map List.length).sum = 2 * m.length
  | [] => rfl
  | q :: m => by
    have := sum_pairs m
    simp only [List.map_cons, List.sum_cons, List.length_cons, List.length_nil] at this ⊢
    omega
theorem len_pairs : ∀ m : List Pr, (m.flatMap fun q => [q.1, q.2]).length = 2 * m.length
  | [] => rfl
  | q :: m => by
    have := len_pairs m
    simp only [List.flatMap_cons, List.length_append, List.length_cons, List.length_nil] at this ⊢
    omega
theorem insD_len (x : Int) : ∀ l : List Int, (insD x l).length ≤ l.length + 1
  | [] => by simp [insD]
  | y :: l => by
    have := insD_len x l
    unfold insD
    split
    · simp
    · split
      · simp
      · simp only [List.length_cons]; omega
theorem dsort_len : ∀ l : List Int, (dsort l).length ≤ l.length
  | [] => by simp [dsort]
  | x :: l => by
    have h1 := dsort_len l
    have h2 := insD_len x (dsort l)
    unfold dsort
    simp only [List.length_cons]
    omega
theorem ok_less {l : List Pr} {k : Nat} {q : Pr} (hk : l[k]? = some q) (hl : l.length ≤ 14) : ∃ (m : List Pr) (r : Val), (m = l ∨ (m = flipAt l k q ∧ Acyc m)) ∧ (r = .fr (.lst (m.map eA)) ∨ r = .sh (.lst (m.map eA))) ∧ f__law_less [.lst (l.map eA), .int (k : Nat)] = some (.ok r) := by
  have hkl : k < l.length := (List.getElem?_eq_some_iff.mp hk).1
  have fl : (flipAt l k q).length = l.length := by unfold flipAt; simp; omega
  have sl1 := slL (fa := varF 0) (fl := noP) (fh := partF (varF 1)) (env := [.sh (.lst (l.map eA)), .sh (.int (k : Nat)), .no, .no, .no, .no, .no, .no, .no, .no]) (xs := l.map eA) (lo := none) (hi := some ((k : Nat) : Int)) rfl rfl (part_ok (r := .sh (.int (k : Nat))) rfl rfl) rfl
  have sl2 := slL (fa := varF 0) (fl := partF (binF addD (varF 1) (shF (.int 1)))) (fh := noP) (env := [.sh (.lst (l.map eA)), .sh (.int (k : Nat)), .no, .no, .no, .no, .no, .no, .no, .no]) (xs := l.map eA) (lo := some ((k + 1 : Nat) : Int)) (hi := none) rfl (part_ok (r := .sh (.int (k + 1 : Nat))) (bin_ok (da := .int (k : Nat)) (db := .int 1) rfl rfl rfl rfl (addI _ _)) rfl) rfl rfl
  rw [cut_to, ← List.map_take] at sl1
  rw [cut_from, ← List.map_drop] at sl2
  have mid : lstF (consA (unF revD (binF ixD (varF 0) (varF 1))) nilA) [.sh (.lst (l.map eA)), .sh (.int (k : Nat)), .no, .no, .no, .no, .no, .no, .no, .no] = some (.ok (.fr (.lst ([(q.2, q.1)].map eA))) [.sh (.lst (l.map eA)), .sh (.int (k : Nat)), .no, .no, .no, .no, .no, .no, .no, .no]) :=
    lst_ok (ds := [eA (q.2, q.1)]) (consA_ok (un_ok (da := eA q) (bin_ok (da := .lst (l.map eA)) (db := .int (k : Nat)) rfl rfl rfl rfl (ix_f hk)) rfl (eA_rev q)) nilA_ok) rfl
  have s1 : le1 [.sh (.lst (l.map eA)), .sh (.int (k : Nat)), .no, .no, .no, .no, .no, .no, .no, .no] = some (.nx [.sh (.lst (l.map eA)), .sh (.int (k : Nat)), .own (.lst ((flipAt l k q).map eA)), .no, .no, .no, .no, .no, .no, .no]) := by
    refine set_ok (r := .fr (.lst ((flipAt l k q).map eA))) (bin_ok (bin_ok sl1 mid rfl rfl (addL (by simp; omega))) sl2 rfl rfl ?_) rfl
    rw [addL (by simp; omega)]
    unfold flipAt
    simp only [List.map_append]
  generalize hm : flipAt l k q = m at *
  have mne : m ≠ [] := fun e => by rw [e] at fl; simp at fl; omega
  have c := comp1 (i := 7) (env := [.sh (.lst (l.map eA)), .sh (.int (k : Nat)), .own (.lst (m.map eA)), .no, .no, .no, .no, .no, .no, .no]) (it := seqI (varF 2)) (tt := yesT) (fe := clF listD (consA (varF 7) nilA)) (ops := [2]) (ds := m.map eA) (t := fun _ => true) (h := fun d => .lst [.int (fst2 d), .int (snd2 d)]) rfl (.inl rfl) (by rw [List.length_map]; omega) (fun d hd => by
    obtain ⟨p, _, rfl⟩ := List.mem_map.mp hd
    exact ⟨rfl, fun _ => ⟨_, rfl, .inr rfl⟩⟩)
  rw [filter_true, List.map_map] at c
  have e1 : m.map ((fun d => D.lst [.int (fst2 d), .int (snd2 d)]) ∘ eA) = m.map fun q => D.lst [.int q.1, .int q.2] := rfl
  rw [e1] at c
  have su : sumLD (.lst (m.map fun q => D.lst [.int q.1, .int q.2])) = some (.fr (.lst ((m.flatMap fun q => [q.1, q.2]).map D.int))) := by
    unfold sumLD
    dsimp only
    rw [lstsOf_pairs]
    dsimp only
    rw [if_pos ⟨by simpa using mne, by rw [sum_pairs]; omega⟩, flat_pairs]
  have so : sosD (.lst ((m.flatMap fun q => [q.1, q.2]).map D.int)) = some (.fr (.lst ((dsort (m.flatMap fun q => [q.1, q.2])).map D.int))) := by
    unfold sosD
    dsimp only
    rw [intsOf_map]
    dsimp only
    rw [if_pos (by rw [len_pairs]; omega)]
  generalize hL0 : dsort (m.flatMap fun q => [q.1, q.2]) = left0 at *
  have ll : left0.length ≤ 1000 := by
    have h1 := dsort_len (m.flatMap fun q => [q.1, q.2])
    rw [len_pairs, hL0] at h1
    omega
  have s2 : le2 [.sh (.lst (l.map eA)), .sh (.int (k : Nat)), .own (.lst (m.map eA)), .no, .no, .no, .no, .no, .no, .no] = some (.nx (leE (.lst (l.map eA)) (.int (k : Nat)) m left0 true .no)) :=
    par_ok (un_ok (op := sosD) (un_ok (op := sumLD) c rfl su) rfl so) rfl rfl
  have rk : Rk m left0 := by
    refine ⟨fun _ => 0, 1, fun p _ => by show (0 : Int) < 1; omega, fun q hq hn => ?_⟩
    exact absurd (by rw [← hL0, mem_dsort]; exact List.mem_flatMap.mpr ⟨q, hq, by simp⟩) hn
  obtain ⟨e', s3, left', e5, rfl, rk'⟩ := le_while (L := .lst (l.map eA)) (at_ := .int (k : Nat)) (m := m) (by omega) ll rk
  have tl : cmpT eqD (clF lenD (consA (varF 3) nilA)) (shF (.int 0)) (leE (.lst (l.map eA)) (.int (k : Nat)) m left' false e5) = some (.ok (decide (((left'.map D.int).length : Int) = 0)) (leE (.lst (l.map eA)) (.int (k : Nat)) m left' false e5)) :=
    cmp_ok (da := .int ((left'.map D.int).length : Nat)) (db := .int 0) (cl_ok (ds := [.lst (left'.map D.int)]) (consA_ok rfl nilA_ok) rfl (lenL _)) rfl rfl rfl (eqD_int _ _)
  by_cases h0 : left' = []
  · subst h0
    have s4 : le4 (leE (.lst (l.map eA)) (.int (k : Nat)) m [] false e5) = some (.rt (.vr 2) (leE (.lst (l.map eA)) (.int (k : Nat)) m [] false e5)) := ret_ok (ife_t tl rfl)
    exact ⟨m, _, .inr ⟨rfl, rk'.acyc⟩, .inl rfl, runF_rt rfl (seq_ok s1 (seq_ok s2 (seq_ok s3 s4))) rfl⟩
  · have : decide (((left'.map D.int).length : Int) = 0) = false := by
      rw [decide_eq_false_iff_not, List.length_map]
      have := List.length_pos_iff.mpr h0
      omega
    rw [this] at tl
    have s4 : le4 (leE (.lst (l.map eA)) (.int (k : Nat)) m left' false e5) = some (.rt (.sh (.lst (l.map eA))) (leE (.lst (l.map eA)) (.int (k : Nat)) m left' false e5)) := ret_ok (ife_f tl rfl)
    exact ⟨l, _, .inl rfl, .inr rfl, runF_rt rfl (seq_ok s1 (seq_ok s2 (seq_ok s3 s4))) rfl⟩
end K94
namespace K94
open PySem PySem.Spec L2 Ev Ma
theorem so_runL {F C : Fn} {n : Nat} {l m : List Pr} {P : List (List Int)} (ho : F [.int n] = some (.ok (.fr (.lst (P.map eO))))) (hp : P.length ≤ 1000000) (hm : m.length ≤ 1000000) (hC : ∀ o ∈ P, C [eL l, eO o] = some (.ok (.sh (eL (srt (l.map (ap o))))))) :
    runF 3 4 (retF (compF true [3] (seqI (caF F (consA (varF 0) nilA))) (gnF 3) (cmpT eqD (caF C (consA (varF 1) (consA (varF 3) nilA))) (clF tupleD (consA (clF sortD (consA (varF 2) nilA)) nilA))) (varF 3))) [.int n, eL l, .lst (m.map eA)] = some (.ok (.fr (.lst ((P.filter (okB l m)).map eO)))) := by
  have hs := sort_lst (l := m) hm
  have hit : seqI (caF F (consA (varF 0) nilA)) [.sh (.int n), .sh (eL l), .sh (.lst (m.map eA)), .no] = some (.ok [] (P.map eO) [.sh (.int n), .sh (eL l), .sh (.lst (m.map eA)), .no]) :=
    seqI_ok (ca_ok (ds := [.int n]) (consA_ok rfl nilA_ok) rfl ho (free_eO _)) (.inl rfl)
  have hc := comp1 (i := 3) (env := [.sh (.int n), .sh (eL l), .sh (.lst (m.map eA)), .no]) (tt := cmpT eqD (caF C (consA (varF 1) (consA (varF 3) nilA))) (clF tupleD (consA (clF sortD (consA (varF 2) nilA)) nilA))) (fe := varF 3) (t := fun d => okB l m (listI d)) (h := fun d => d) hit (.inl rfl) (by rw [List.length_map]; exact hp) (fun d hd => by
    obtain ⟨o, ho', rfl⟩ := List.mem_map.mp hd
    refine ⟨?_, fun _ => ⟨.sh (eO o), rfl, .inl rfl⟩⟩
    have hCo := hC o ho'
    rw [listI_eO]
    exact cmp_ok (da := eL (srt (l.map (ap o)))) (db := eL (srt m)) (ca_ok (r := .sh (eL (srt (l.map (ap o))))) (ds := [eL l, eO o]) (consA_ok rfl (consA_ok rfl nilA_ok)) rfl hCo (free_eL (srt (l.map (ap o))))) (cl_ok (r := .sh (eL (srt m))) (consA_ok (cl_ok (f := sortD) (ds := [.lst (m.map eA)]) (consA_ok rfl nilA_ok) rfl hs) nilA_ok) rfl rfl) rfl rfl (eq_eL _ _))
  rw [List.map_id', List.filter_map] at hc
  have : ((fun d => okB l m (listI d)) ∘ eO) = okB l m := by funext o; simp [listI_eO]
  rw [this] at hc
  exact runF_rt rfl (ret_ok hc) rfl
theorem ok_law_shape_ordersL {n : Nat} (hn : 1 ≤ n ∧ n ≤ 4) {l m : List Pr} (h : WebP n l) (hm : m.length ≤ 1000000) : f__law_shape_orders [.int n, eL l, .lst (m.map eA)] = some (.ok (.fr (.lst (((pm n).filter (okB l m)).map eO)))) :=
  so_runL (ok_law_orders hn) (Nat.le_trans (len_pm n hn.2) (by decide)) hm fun o ho => ok_called (Nat.le_trans h.len (by decide)) (h.rng (pm_ord hn.2 ho))
theorem is_other_run {R : Fn} {n k : Int} (hnk : n ≠ k) {l m : List Pr} {t : D} : runF 3 5 (seqF (ifS (orT (cmpT neD (unF (fldD 0 0) (varF 0)) (unF (fldD 0 0) (varF 1))) (notT (truF (caF R (consA (varF 2) (consA (unF (fldD 0 0) (varF 0)) (consA (shF (.int 0)) (consA (binF subD (unF (fldD 0 0) (varF 0)) (shF (.int 1))) nilA)))))))) (retF (shF (.bl false))) nxF)
    (seqF (ifS (cmpT neD (clF sortD (consA (varF 2) nilA)) (unF lrgD (unF (fldD 0 0) (varF 0)))) (retF (shF (.bl false))) nxF)
    (retF (binF (oBl eqD) (clF sortD (consA (compF true [3, 4] (seqI (unF (fldD 0 1) (varF 0))) (gtF (gconsF (gnF 3) (gconsF (gnF 4) gnilF))) yesT (tupF (consA (binF ixD (varF 2) (varF 3)) (consA (binF ixD (varF 2) (varF 4)) nilA)))) nilA)) (clF sortD (consA (unF (fldD 0 1) (varF 1)) nilA)))))) [webD n l, webD k m, t] = some (.ok (.sh (.bl false))) := by
  have ne : neD (.int n) (.int k) = some true := by rw [ne_int, decide_eq_false hnk]; rfl
  exact runF_rt rfl (seq_rt (if_t (or_t (cmp_ok (da := .int n) (db := .int k) (un_ok (da := webD n l) rfl rfl rfl) (un_ok (da := webD k m) rfl rfl rfl) rfl rfl ne)) rfl)) rfl
theorem ok_is_other {n k : Int} (hnk : n ≠ k) {l m : List Pr} {t : D} : f_is_shape_order [webD n l, webD k m, t] = some (.ok (.sh (.bl false))) := is_other_run hnk
/-! webs with some arrow otherwise -/
theorem web_sub {n : Int} {l m : List Pr} (w : WebP n l) (hs : ∀ q ∈ m, q ∈ l) (hl : m.length ≤ 14) : WebP n m :=
  ⟨w.n1, w.n2, hl, fun q hq => w.inr q (hs q hq), by
    obtain ⟨r, hr⟩ := w.acy
    exact ⟨r, fun q hq => hr q (hs q hq)⟩⟩
theorem flip_web {n : Int} {l : List Pr} (w : WebP n l) {k : Nat} {q : Pr} (hk : l[k]? = some q) (ha : Acyc (flipAt l k q)) : WebP n (flipAt l k q) := by
  have hkl : k < l.length := (List.getElem?_eq_some_iff.mp hk).1
  have wl := w.len
  refine ⟨w.n1, w.n2, by unfold flipAt; simp; omega, fun x hx => ?_, ha⟩
  unfold flipAt at hx
  rcases List.mem_append.mp hx with hx | hx
  · rcases List.mem_append.mp hx with hx | hx
    · exact w.inr x (List.mem_of_mem_take hx)
    · rw [List.mem_singleton.mp hx]
      obtain ⟨h1, h2, h3, h4, h5⟩ := w.inr q (List.mem_of_getElem? hk)
      exact ⟨h3, h4, h1, h2, Ne.symm h5⟩
  · exact w.inr x (List.mem_of_mem_drop hx)
noncomputable def t1 (I : Fm) : FS := (parF 3 4 (mkF 0 I (consA (varF 1) (consA (varF 2) nilA))) (clF listD (consA (varF 2) nilA)))
noncomputable def t2 (F A : Fi) (L : Fn) : FS := (ifS (cmpT (cm2 fun i j => decide (j < i)) (clF lenD (consA (varF 4) nilA)) (shF (.int 0))) (seqF (setF 7 (ioF 0 F (consA (clF lenD (consA (varF 4) nilA)) nilA)))
    (setF 4 (ioF 0 A (consA (lstF (consA (binF addD (slF (varF 4) noP (partF (varF 7))) (slF (varF 4) (partF (binF addD (varF 7) (shF (.int 1)))) noP)) (consA (binF addD (varF 4) (lstF (consA (binF ixD (varF 4) (varF 7)) nilA))) (consA (caF L (consA (varF 4) (consA (varF 7) nilA))) nilA)))) nilA)))) nxF)
noncomputable def t3 (S : Fn) : FS := (setF 5 (binF ixD (binF addD (caF S (consA (varF 1) (consA (varF 2) (consA (varF 4) nilA)))) (lstF (consA (shF .non) nilA))) (shF (.int 0))))
noncomputable def t4 (B : Fn) (I : Fm) : FS := (ifS (cmpT neD (caF B (consA (varF 3) (consA (mkF 0 I (consA (varF 1) (consA (clF tupleD (consA (varF 4) nilA)) nilA))) nilA))) (varF 5)) (retF (shF (.bl false))) nxF)
noncomputable def t5 (I : Fm) : FS := (setF 6 (mkF 0 I (consA (binF addD (varF 1) (shF (.int 1))) (consA (varF 2) nilA))))
noncomputable def t6 (B Z : Fn) : FS := (retF (andF (binF (oBl (isD false)) (caF B (consA (varF 3) (consA (varF 6) nilA))) (shF .non)) (binF (oBl (isD false)) (caF Z (consA (varF 3) (consA (varF 6) (consA (clF tupleD (consA (unF lrgD (varF 1)) nilA)) nilA)))) (shF (.bl false)))))
abbrev tE (h : List D) (n : Nat) (l : List Pr) (c5 c6 c7 : Ent) (e4 : Ent) : List Ent := [.io (.lst h), .sh (.int n), .sh (eL l), .sh (webD n l), e4, c5, c6, c7]
theorem t2_ok {F A : Fi} {L : Fn} (hF : DrawOk F) (hA : AnyOk A) {n : Nat} {l : List Pr} (w : WebP n l) (h5 : l.length ≤ 5)
    (hL : ∀ (k : Nat) (q : Pr), l[k]? = some q → ∃ (m : List Pr) (r : Val), (m = l ∨ (m = flipAt l k q ∧ Acyc m)) ∧ (r = .fr (.lst (m.map eA)) ∨ r = .sh (.lst (m.map eA))) ∧ L [.lst (l.map eA), .int (k : Nat)] = some (.ok r)) {h : List D} (H : HandP h) :
    ∃ (h' : List D) (c : List Pr) (e4 e7 : Ent), HandP h' ∧ WebP n c ∧ c.length ≤ 6 ∧ (e4 = .own (.lst (c.map eA)) ∨ e4 = .sh (.lst (c.map eA))) ∧ t2 F A L (tE h n l .no .no .no (.own (.lst (l.map eA)))) = some (.nx (tE h' n l .no .no e7 e4)) := by
  have len4 : ∀ h c7 e4, peek (tE h n l .no .no c7 e4) (.vr 4) = some (.lst (l.map eA)) → varF 4 (tE h n l .no .no c7 e4) = some (.ok (.vr 4) (tE h n l .no .no c7 e4)) → clF lenD (consA (varF 4) nilA) (tE h n l .no .no c7 e4) = some (.ok (.sh (.int ((l.map eA).length : Nat))) (tE h n l .no .no c7 e4)) := fun h c7 e4 hp hv =>
    cl_ok (ds := [.lst (l.map eA)]) (consA_ok hv nilA_ok) (by simp only [peeks, Val.norm, hp]) (lenL _)
  have gt0 : cmpT (cm2 fun i j => decide (j < i)) (clF lenD (consA (varF 4) nilA)) (shF (.int 0)) (tE h n l .no .no .no (.own (.lst (l.map eA)))) = some (.ok (decide ((0 : Int) < ((l.map eA).length : Nat))) (tE h n l .no .no .no (.own (.lst (l.map eA))))) :=
    cmp_ok (da := .int ((l.map eA).length : Nat)) (db := .int 0) (len4 _ _ _ rfl rfl) rfl rfl rfl rfl
  by_cases hl0 : l.length = 0
  · have : decide ((0 : Int) < ((l.map eA).length : Nat)) = false := by rw [List.length_map, hl0]; rfl
    rw [this] at gt0
    exact ⟨h, l, _, _, H, w, by omega, .inl rfl, if_f gt0 rfl⟩
  · have : decide ((0 : Int) < ((l.map eA).length : Nat)) = true := by rw [List.length_map]; exact decide_eq_true (by omega)
    rw [this] at gt0
    obtain ⟨h1, k, H1, k0, k1, a1⟩ := hF.go h H ((l.map eA).length : Nat) (by simp; omega)
    obtain ⟨k, rfl⟩ := Int.eq_ofNat_of_zero_le k0
    have hk : k < l.length := by simp at k1; omega
    have hkq := List.getElem?_eq_getElem hk
    generalize l[k] = q at hkq
    have qm : q ∈ l := List.mem_of_getElem? hkq
    have s1 : setF 7 (ioF 0 F (consA (clF lenD (consA (varF 4) nilA)) nilA)) (tE h n l .no .no .no (.own (.lst (l.map eA)))) = some (.nx (tE h1 n l .no .no (.sh (.int (k : Nat))) (.own (.lst (l.map eA))))) :=
      set_ok (io_ok (i := 0) (e1 := tE h n l .no .no .no (.own (.lst (l.map eA)))) (e2 := tE h n l .no .no .no (.own (.lst (l.map eA)))) (rs := [.sh (.int ((l.map eA).length : Nat))]) (ds := [.int ((l.map eA).length : Nat)]) rfl (consA_ok (len4 _ _ _ rfl rfl) nilA_ok) rfl rfl a1) rfl
    obtain ⟨mm, r, hm, hr, hLr⟩ := hL k q hkq
    have mlen : mm.length ≤ 5 := by
      rcases hm with rfl | ⟨rfl, _⟩
      · exact h5
      · unfold flipAt; simp; omega
    have wm : WebP n mm := by
      rcases hm with rfl | ⟨rfl, ha⟩
      · exact w
      · exact flip_web w hkq ha
    have x1 : binF addD (slF (varF 4) noP (partF (varF 7))) (slF (varF 4) (partF (binF addD (varF 7) (shF (.int 1)))) noP) (tE h1 n l .no .no (.sh (.int (k : Nat))) (.own (.lst (l.map eA)))) = some (.ok (.fr (.lst ((l.take k ++ l.drop (k + 1)).map eA))) (tE h1 n l .no .no (.sh (.int (k : Nat))) (.own (.lst (l.map eA))))) := by
      have sl1 := slL (fa := varF 4) (fl := noP) (fh := partF (varF 7)) (env := tE h1 n l .no .no (.sh (.int (k : Nat))) (.own (.lst (l.map eA)))) (ra := .vr 4) (xs := l.map eA) (lo := none) (hi := some ((k : Nat) : Int)) rfl rfl (part_ok (r := .sh (.int (k : Nat))) rfl rfl) rfl
      have sl2 := slL (fa := varF 4) (fl := partF (binF addD (varF 7) (shF (.int 1)))) (fh := noP) (env := tE h1 n l .no .no (.sh (.int (k : Nat))) (.own (.lst (l.map eA)))) (ra := .vr 4) (xs := l.map eA) (lo := some ((k + 1 : Nat) : Int)) (hi := none) rfl (part_ok (r := .sh (.int (k + 1 : Nat))) (bin_ok (da := .int (k : Nat)) (db := .int 1) rfl rfl rfl rfl (addI _ _)) rfl) rfl rfl
      rw [cut_to, ← List.map_take] at sl1
      rw [cut_from, ← List.map_drop] at sl2
      refine bin_ok sl1 sl2 rfl rfl ?_
      rw [addL (by simp; omega), List.map_append]
    have x2 : binF addD (varF 4) (lstF (consA (binF ixD (varF 4) (varF 7)) nilA)) (tE h1 n l .no .no (.sh (.int (k : Nat))) (.own (.lst (l.map eA)))) = some (.ok (.fr (.lst ((l ++ [q]).map eA))) (tE h1 n l .no .no (.sh (.int (k : Nat))) (.own (.lst (l.map eA))))) := by
      refine bin_ok (da := .lst (l.map eA)) (db := .lst [eA q]) (ra := .vr 4) rfl (lst_ok (ds := [eA q]) (consA_ok (bin_ok (da := .lst (l.map eA)) (db := .int (k : Nat)) (ra := .vr 4) rfl rfl rfl rfl (ix_f hkq)) nilA_ok) rfl) rfl rfl ?_
      rw [addL (by simp; omega), List.map_append]
      rfl
    obtain ⟨e4, he4, x3⟩ : ∃ e4, (e4 = .own (.lst (l.map eA)) ∨ e4 = .sh (.lst (l.map eA))) ∧ caF L (consA (varF 4) (consA (varF 7) nilA)) (tE h1 n l .no .no (.sh (.int (k : Nat))) (.own (.lst (l.map eA)))) = some (.ok r (tE h1 n l .no .no (.sh (.int (k : Nat))) e4)) := by
      rcases hr with rfl | rfl
      · exact ⟨_, .inl rfl, ca_ok (rs := [.vr 4, .sh (.int (k : Nat))]) (ds := [.lst (l.map eA), .int (k : Nat)]) rfl rfl hLr (free_As mm)⟩
      · exact ⟨_, .inr rfl, ca_st (rs := [.vr 4, .sh (.int (k : Nat))]) (ds := [.lst (l.map eA), .int (k : Nat)]) (ds' := [.lst (l.map eA), .int (k : Nat)]) rfl rfl hLr rfl rfl⟩
    have nr : r.norm = .sh (.lst (mm.map eA)) := by rcases hr with rfl | rfl <;> rfl
    obtain ⟨h2, d, H2, hd, a2⟩ := hA.go h1 H1 [.lst ((l.take k ++ l.drop (k + 1)).map eA), .lst ((l ++ [q]).map eA), .lst (mm.map eA)] (by simp) (by simp)
    have hc : ∃ c : List Pr, d = .lst (c.map eA) ∧ WebP n c ∧ c.length ≤ 6 := by
      simp only [List.mem_cons, List.not_mem_nil, or_false] at hd
      rcases hd with rfl | rfl | rfl
      · refine ⟨_, rfl, web_sub w (fun x hx => ?_) (by simp; omega), by simp; omega⟩
        rcases List.mem_append.mp hx with hx | hx
        · exact List.mem_of_mem_take hx
        · exact List.mem_of_mem_drop hx
      · refine ⟨_, rfl, web_sub w (fun x hx => ?_) (by simp; omega), by simp; omega⟩
        rcases List.mem_append.mp hx with hx | hx
        · exact hx
        · rw [List.mem_singleton.mp hx]; exact qm
      · exact ⟨_, rfl, wm, by omega⟩
    obtain ⟨c, rfl, wc, cl⟩ := hc
    have xl := lst_ok (fs := consA (binF addD (slF (varF 4) noP (partF (varF 7))) (slF (varF 4) (partF (binF addD (varF 7) (shF (.int 1)))) noP)) (consA (binF addD (varF 4) (lstF (consA (binF ixD (varF 4) (varF 7)) nilA))) (consA (caF L (consA (varF 4) (consA (varF 7) nilA))) nilA))) (e2 := tE h1 n l .no .no (.sh (.int (k : Nat))) e4) (ds := [.lst ((l.take k ++ l.drop (k + 1)).map eA), .lst ((l ++ [q]).map eA), .lst (mm.map eA)]) (consA_ok x1 (consA_ok x2 (consA_ok x3 nilA_ok))) (by rw [nr]; rfl)
    have s2 : setF 4 (ioF 0 A (consA (lstF (consA (binF addD (slF (varF 4) noP (partF (varF 7))) (slF (varF 4) (partF (binF addD (varF 7) (shF (.int 1)))) noP)) (consA (binF addD (varF 4) (lstF (consA (binF ixD (varF 4) (varF 7)) nilA))) (consA (caF L (consA (varF 4) (consA (varF 7) nilA))) nilA)))) nilA)) (tE h1 n l .no .no (.sh (.int (k : Nat))) (.own (.lst (l.map eA)))) = some (.nx (tE h2 n l .no .no (.sh (.int (k : Nat))) (.sh (.lst (c.map eA))))) := by
      refine set_ok (r := .sh (.lst (c.map eA))) (e1 := tE h2 n l .no .no (.sh (.int (k : Nat))) e4) ?_ ?_
      · exact io_ok (i := 0) (e1 := tE h1 n l .no .no (.sh (.int (k : Nat))) e4) (e2 := tE h1 n l .no .no (.sh (.int (k : Nat))) e4) (rs := [.sh (.lst [.lst ((l.take k ++ l.drop (k + 1)).map eA), .lst ((l ++ [q]).map eA), .lst (mm.map eA)])]) (ds := [.lst [.lst ((l.take k ++ l.drop (k + 1)).map eA), .lst ((l ++ [q]).map eA), .lst (mm.map eA)]]) rfl (consA_ok xl nilA_ok) rfl rfl a2
      · rcases he4 with rfl | rfl <;> rfl
    exact ⟨h2, c, _, _, H2, wc, cl, .inr rfl, if_t gt0 (seq_ok s1 s2)⟩
theorem ne_orNon (x : Option (List Int)) : neD (orNon x) (orNon x) = some false := by
  cases x with
  | some o => exact ne_eO o
  | none =>
    unfold neD eqD
    simp only [orNon, toPy]
    rw [if_pos (by simp [SeqAt.shaped, PyData.canLay0, PyData.depth])]
    simp [PyData.eqv]
theorem find_len {n : Nat} {l c : List Pr} : (if n = n ∧ l.length = c.length then (pm n).find? (okB l c) else none) = ((pm n).filter (okB l c)).head? := by
  rw [← find_filter]
  by_cases h : l.length = c.length
  · rw [if_pos ⟨rfl, h⟩]
  · rw [if_neg (fun e => h e.2)]
    symm
    rw [List.find?_eq_none]
    intro o _ e
    have := (okB_iff.mp e).length_eq
    rw [List.length_map] at this
    exact h this
theorem others_run {F A : Fi} {L S B Z : Fn} {I : Fm} (hF : DrawOk F) (hA : AnyOk A) {n : Nat} (hn : 1 ≤ n ∧ n ≤ 4) {l : List Pr} (w : WebP n l) (h5 : l.length ≤ 5)
    (hI : ∀ (k : Nat) m, WebP k m → I [.int k, eL m] = some [.int k, eL m])
    (hL : ∀ (k : Nat) (q : Pr), l[k]? = some q → ∃ (m : List Pr) (r : Val), (m = l ∨ (m = flipAt l k q ∧ Acyc m)) ∧ (r = .fr (.lst (m.map eA)) ∨ r = .sh (.lst (m.map eA))) ∧ L [.lst (l.map eA), .int (k : Nat)] = some (.ok r))
    (hS : ∀ m : List Pr, m.length ≤ 1000000 → S [.int n, eL l, .lst (m.map eA)] = some (.ok (.fr (.lst (((pm n).filter (okB l m)).map eO)))))
    (hB : ∀ (k : Nat) (m : List Pr), m.length ≤ 1000000 → B [webD n l, webD k m] = some (.ok (.sh (orNon (if n = k ∧ l.length = m.length then (pm n).find? (okB l m) else none)))))
    (hZ : ∀ (t : D), Z [webD n l, webD (n + 1 : Nat) l, t] = some (.ok (.sh (.bl false))))
    {h : List D} (H : HandP h) : ∃ h', HandP h' ∧ runI 3 8 (seqF (t1 I) (seqF (t2 F A L) (seqF (t3 S) (seqF (t4 B I) (seqF (t5 I) (t6 B Z)))))) h [.int n, eL l] = some (h', .sh (.bl true)) := by
  have s1 : t1 I [.io (.lst h), .sh (.int n), .sh (eL l), .no, .no, .no, .no, .no] = some (.nx (tE h n l .no .no .no (.own (.lst (l.map eA))))) :=
    par_ok (ra := .sh (webD n l)) (rb := .fr (.lst (l.map eA))) (mk_ok (cl := 0) (ds := [.int n, eL l]) (consA_ok rfl (consA_ok rfl nilA_ok)) rfl (hI n l w)) (cl_ok (ds := [eL l]) (consA_ok rfl nilA_ok) rfl rfl) rfl
  obtain ⟨h', c, e4, e7, H', wc, cl, he4, s2⟩ := t2_ok hF hA w h5 hL H
  have v4 : ∀ c5 c6, ∃ r4, varF 4 (tE h' n l c5 c6 e7 e4) = some (.ok r4 (tE h' n l c5 c6 e7 e4)) ∧ peek (tE h' n l c5 c6 e7 e4) r4.norm = some (.lst (c.map eA)) := fun c5 c6 => by
    rcases he4 with rfl | rfl
    · exact ⟨.vr 4, rfl, rfl⟩
    · exact ⟨.sh (.lst (c.map eA)), rfl, rfl⟩
  generalize hP : (pm n).filter (okB l c) = P
  have Pl : P.length ≤ 24 := by rw [← hP]; exact Nat.le_trans (List.length_filter_le _ _) (len_pm n hn.2)
  have cm : c.length ≤ 1000000 := by omega
  have s3 : t3 S (tE h' n l .no .no e7 e4) = some (.nx (tE h' n l (.sh (orNon P.head?)) .no e7 e4)) := by
    obtain ⟨r4, v, p⟩ := v4 .no .no
    have cS := hS c cm
    rw [hP] at cS
    have call : caF S (consA (varF 1) (consA (varF 2) (consA (varF 4) nilA))) (tE h' n l .no .no e7 e4) = some (.ok (.fr (.lst (P.map eO))) (tE h' n l .no .no e7 e4)) :=
      ca_ok (rs := [.sh (.int n), .sh (eL l), r4.norm]) (ds := [.int n, eL l, .lst (c.map eA)]) (consA_ok (r := .sh (.int n)) rfl (consA_ok (r := .sh (eL l)) rfl (consA_ok v nilA_ok))) (pk_cons rfl (pk_cons rfl (pk_cons p pk_nil))) cS (free_eO _)
    refine set_ok (r := .sh (orNon P.head?)) (bin_ok (da := .lst (P.map eO ++ [.non])) (db := .int 0) (bin_ok (da := .lst (P.map eO)) (db := .lst [.non]) call (lst_ok (ds := [.non]) (consA_ok (r := .sh .non) rfl nilA_ok) rfl) rfl rfl (addL (by simp; omega))) rfl rfl rfl ?_) rfl
    cases P with
    | nil => rfl
    | cons a b =>
      have := L2.atI_nat (xs := (a :: b).map eO ++ [D.non]) (j := 0) (v := eO a) rfl
      exact congrArg (fun z => z.map Val.sh) this
  have s4 : t4 B I (tE h' n l (.sh (orNon P.head?)) .no e7 e4) = some (.nx (tE h' n l (.sh (orNon P.head?)) .no e7 e4)) := by
    obtain ⟨r4, v, p⟩ := v4 (.sh (orNon P.head?)) .no
    have tu : clF tupleD (consA (varF 4) nilA) (tE h' n l (.sh (orNon P.head?)) .no e7 e4) = some (.ok (.sh (eL c)) (tE h' n l (.sh (orNon P.head?)) .no e7 e4)) :=
      cl_ok (ds := [.lst (c.map eA)]) (consA_ok v nilA_ok) (by simp only [peeks, p]) rfl
    have mk := mk_ok (cl := 0) (f := I) (env := tE h' n l (.sh (orNon P.head?)) .no e7 e4) (ds := [.int n, eL c]) (fl := [.int n, eL c]) (consA_ok (fa := varF 1) (r := .sh (.int n)) rfl (consA_ok tu nilA_ok)) rfl (hI n c wc)
    have cB := hB n c cm
    rw [find_len, hP] at cB
    have fr : lstFreeV (.sh (orNon P.head?)) = true := by
      cases P.head? with
      | none => rfl
      | some o => exact lstFrees_ints o
    exact if_f (cmp_ok (da := orNon P.head?) (db := orNon P.head?) (ca_ok (ds := [webD n l, webD n c]) (consA_ok (r := .sh (webD n l)) rfl (consA_ok mk nilA_ok)) rfl cB fr) rfl rfl rfl (ne_orNon _)) rfl
  have wn : WebP ((n + 1 : Nat) : Int) l := by
    refine ⟨by omega, by omega, w.len, fun q hq => ?_, w.acy⟩
    obtain ⟨i1, i2, i3, i4, i5⟩ := w.inr q hq
    exact ⟨i1, by omega, i3, by omega, i5⟩
  have s5 : t5 I (tE h' n l (.sh (orNon P.head?)) .no e7 e4) = some (.nx (tE h' n l (.sh (orNon P.head?)) (.sh (webD (n + 1 : Nat) l)) e7 e4)) :=
    set_ok (mk_ok (cl := 0) (f := I) (ds := [.int (n + 1 : Nat), eL l]) (consA_ok (r := .sh (.int (n + 1 : Nat))) (bin_ok (da := .int n) (db := .int 1) rfl rfl rfl rfl (addI _ _)) (consA_ok (r := .sh (eL l)) rfl nilA_ok)) rfl (hI (n + 1) l wn)) rfl
  have s6 : ∃ e, t6 B Z (tE h' n l (.sh (orNon P.head?)) (.sh (webD (n + 1 : Nat) l)) e7 e4) = some (.rt (.sh (.bl true)) (.io (.lst h') :: e)) := by
    have cB := hB (n + 1) l (by omega)
    rw [if_neg (fun e => by have := e.1; omega)] at cB
    have lrg : lrgD (.int n) = some (.fr (.lst ((rngI n).map D.int))) := by rw [rngd_ok n (by omega), rng_map]
    have y1 : binF (oBl (isD false)) (caF B (consA (varF 3) (consA (varF 6) nilA))) (shF .non) (tE h' n l (.sh (orNon P.head?)) (.sh (webD (n + 1 : Nat) l)) e7 e4) = some (.ok (.sh (.bl true)) (tE h' n l (.sh (orNon P.head?)) (.sh (webD (n + 1 : Nat) l)) e7 e4)) :=
      bl_ok (da := .non) (db := .non) (ca_ok (ds := [webD n l, webD (n + 1 : Nat) l]) (consA_ok rfl (consA_ok rfl nilA_ok)) rfl cB rfl) rfl rfl rfl rfl
    have y2 : binF (oBl (isD false)) (caF Z (consA (varF 3) (consA (varF 6) (consA (clF tupleD (consA (unF lrgD (varF 1)) nilA)) nilA)))) (shF (.bl false)) (tE h' n l (.sh (orNon P.head?)) (.sh (webD (n + 1 : Nat) l)) e7 e4) = some (.ok (.sh (.bl true)) (tE h' n l (.sh (orNon P.head?)) (.sh (webD (n + 1 : Nat) l)) e7 e4)) :=
      bl_ok (da := .bl false) (db := .bl false) (ca_ok (ds := [webD n l, webD (n + 1 : Nat) l, eO (rngI n)]) (consA_ok (r := .sh (webD n l)) rfl (consA_ok (r := .sh (webD (n + 1 : Nat) l)) rfl (consA_ok (r := .sh (eO (rngI n))) (cl_ok (f := tupleD) (consA_ok (un_ok (op := lrgD) (fa := varF 1) (ra := .sh (.int n)) (da := .int n) rfl rfl lrg) nilA_ok) rfl rfl) nilA_ok))) rfl (hZ _) rfl) rfl rfl rfl rfl
    exact ⟨_, ret_ok (and_F1 y1 y2)⟩
  obtain ⟨e, s6⟩ := s6
  exact ⟨h', H', runI_rt rfl (seq_ok s1 (seq_ok s2 (seq_ok s3 (seq_ok s4 (seq_ok s5 s6))))) rfl⟩
theorem ok_others_right {n : Nat} (hn : 1 ≤ n ∧ n ≤ 4) {l : List Pr} (w : WebP n l) (h5 : l.length ≤ 5) {h : List D} (H : HandP h) : ∃ h', HandP h' ∧ f__law_others_right h [.int n, eL l] = some (h', .sh (.bl true)) :=
  others_run draw_ok any_ok hn w h5 (fun k m hm => hm.init) (fun k q hk => ok_less hk w.len) (fun m hm => ok_law_shape_ordersL hn w hm) (fun k m hm => ok_shape_order hn w hm) (fun t => ok_is_other (by omega)) H
end K94
namespace K94
open PySem PySem.Spec L2 Ev Ma
/-! ### the law -/
theorem cut_scr {ns : List Int} (h : ns.length ≤ 63) : cutD (ns.map D.int) none (some (63 : Int)) = ns.map D.int := by
  have := cut_to (ns.map D.int) 63
  rw [show ((63 : Nat) : Int) = (63 : Int) from rfl] at this
  rw [this, List.take_of_length_le (by simpa using h)]
theorem hand_run {ns : List Int} (hn : ns.length ≤ 63) : ∃ h, HandP h ∧ f__law_hand [.scr (ns.map D.int)] = some (.ok (.fr (.lst h))) := by
  have sl : slF (varF 0) noP (partF (shF (.int 63))) [.sh (.scr (ns.map D.int)), .no, .no] = some (.ok (.fr (.lst (ns.map D.int))) [.sh (.scr (ns.map D.int)), .no, .no]) := by
    have : slF (varF 0) noP (partF (shF (.int 63))) [.sh (.scr (ns.map D.int)), .no, .no] = some (.ok (.fr (.lst (cutD (ns.map D.int) none (some 63)))) [.sh (.scr (ns.map D.int)), .no, .no]) := rfl
    rw [this, cut_scr hn]
  have c := comp1 (i := 2) (env := [.sh (.scr (ns.map D.int)), .no, .no]) (tt := yesT) (fe := clF absD (consA (clF intD (consA (varF 2) nilA)) nilA)) (t := fun _ => true) (h := fun d => .int (if intOf d < 0 then -intOf d else intOf d)) (seqI_ok sl (.inl rfl)) (.inl rfl) (by rw [List.length_map]; omega) (fun d hd => by
    obtain ⟨i, _, rfl⟩ := List.mem_map.mp hd
    exact ⟨rfl, fun _ => ⟨_, rfl, .inl rfl⟩⟩)
  rw [filter_true, List.map_map] at c
  have e1 : ns.map ((fun d => D.int (if intOf d < 0 then -intOf d else intOf d)) ∘ D.int) = (ns.map fun i => if i < 0 then -i else i).map D.int := by rw [List.map_map]; rfl
  rw [e1] at c
  generalize hcs : (ns.map fun i : Int => if i < 0 then -i else i) = cs at c
  have cl : cs.length ≤ 63 := by rw [← hcs, List.length_map]; exact hn
  have cp : ∀ x ∈ cs, 0 ≤ x := fun x hx => by
    rw [← hcs] at hx
    obtain ⟨i, _, rfl⟩ := List.mem_map.mp hx
    split <;> omega
  have s1 := set_ok (i := 1) (e2 := [.sh (.scr (ns.map D.int)), .own (.lst (cs.map D.int)), .no]) c rfl
  have m5 := mulL (a := 5) (b := ((cs.map D.int).length : Nat)) (by decide)
  have x3 : binF addD (shF (.int 181)) (binF mulD (shF (.int 5)) (clF lenD (consA (varF 1) nilA))) [.sh (.scr (ns.map D.int)), .own (.lst (cs.map D.int)), .no] = some (.ok (.sh (.int (181 + 5 * ((cs.map D.int).length : Nat)))) [.sh (.scr (ns.map D.int)), .own (.lst (cs.map D.int)), .no]) :=
    bin_ok (da := .int 181) (db := .int (5 * ((cs.map D.int).length : Nat))) rfl (bin_ok (da := .int 5) (db := .int ((cs.map D.int).length : Nat)) rfl (cl_ok (ds := [.lst (cs.map D.int)]) (consA_ok rfl nilA_ok) rfl (lenL _)) rfl rfl m5) rfl rfl (addI _ _)
  refine ⟨hnd cs 0 0 (181 + 5 * ((cs.map D.int).length : Nat)) 0, ⟨cs, 0, 0, _, 0, rfl, cp, by omega, by omega, by simp; omega, by simp; omega, by omega⟩, ?_⟩
  exact runF_rt rfl (seq_ok s1 (ret_ok (lst_ok (ds := hnd cs 0 0 (181 + 5 * ((cs.map D.int).length : Nat)) 0) (rs := [.vr 1, .sh (.int 0), .sh (.int 0), .sh (.int (181 + 5 * ((cs.map D.int).length : Nat))), .sh (.int 0)]) (consA_ok (r := .vr 1) rfl (consA_ok (r := .sh (.int 0)) rfl (consA_ok (r := .sh (.int 0)) rfl (consA_ok x3 (consA_ok (r := .sh (.int 0)) rfl nilA_ok))))) rfl))) rfl
def line : List Pr := [(0, 1), (1, 2)]
def fork : List Pr := [(0, 1), (0, 2)]
def enil : List Pr := [(2, 1), (1, 0)]
theorem line_web : WebP (3 : Nat) line := ⟨by decide, by decide, by decide, by unfold Inr line; decide, fun x => x, by decide⟩
theorem enil_web : WebP (3 : Nat) enil := ⟨by decide, by decide, by decide, by unfold Inr enil; decide, fun x => -x, by decide⟩
theorem fork_web : WebP (3 : Nat) fork := ⟨by decide, by decide, by decide, by unfold Inr fork; decide, fun x => x, by decide⟩
/-! sorting that the kernel can do -/
def insK (q : Pr) : List Pr → List Pr
  | [] => [q]
  | x :: l => if leD (eA q) (eA x) = true then q :: x :: l else x :: insK q l
def srtK : List Pr → List Pr
  | [] => []
  | q :: l => insK q (srtK l)
theorem insK_perm (q : Pr) : ∀ l : List Pr, (insK q l).Perm (q :: l)
  | [] => .refl _
  | x :: l => by
    unfold insK
    split
    · exact .refl _
    · exact ((insK_perm q l).cons x).trans (.swap _ _ _)
theorem srtK_perm : ∀ l : List Pr, (srtK l).Perm l
  | [] => .refl _
  | q :: l => (insK_perm q _).trans ((srtK_perm l).cons q)
theorem insK_sorted (q : Pr) : ∀ {l : List Pr}, l.Pairwise (fun a b => leD (eA a) (eA b) = true) → (insK q l).Pairwise (fun a b => leD (eA a) (eA b) = true)
  | [], _ => by simp [insK]
  | x :: l, h => by
    have h' := List.pairwise_cons.mp h
    unfold insK
    split
    · rename_i hq
      refine List.pairwise_cons.mpr ⟨fun y hy => ?_, h⟩
      rcases List.mem_cons.mp hy with rfl | hy
      · exact hq
      · exact le_total.trans _ _ _ hq (h'.1 y hy)
    · rename_i hq
      refine List.pairwise_cons.mpr ⟨fun y hy => ?_, insK_sorted q h'.2⟩
      rcases List.mem_cons.mp ((insK_perm q l).mem_iff.mp hy) with rfl | hy
      · exact (le_total.total (eA x) (eA y)).resolve_right hq
      · exact h'.1 y hy
theorem srtK_sorted : ∀ l : List Pr, (srtK l).Pairwise (fun a b => leD (eA a) (eA b) = true)
  | [] => .nil
  | q :: l => insK_sorted q (srtK_sorted l)
theorem srt_K (l : List Pr) : srt l = srtK l := by
  rw [← srt_eq (srtK_perm l)]
  exact List.mergeSort_of_pairwise (srtK_sorted l)
def trnK (p : Int) (l : List Pr) : List Pr := srtK (l.map (tn p))
def st1K (at_ : Nat) (f : List (List Pr)) (p : Int) : List (List Pr) := match f[at_]? with
  | none => f
  | some c => if snk p c = true ∧ trnK p c ∉ f then f ++ [trnK p c] else f
def stpK (n : Nat) (f : List (List Pr)) (at_ : Nat) : List (List Pr) := (rngI n).foldl (st1K at_) f
def bfsK (n : Nat) : Nat → List (List Pr) → Nat → List (List Pr)
  | 0, f, _ => f
  | k + 1, f, at_ => if at_ < f.length then bfsK n k (stpK n f at_) (at_ + 1) else f
theorem trn_K : trn = trnK := by funext p l; exact srt_K _
theorem st1_K : st1 = st1K := by funext a f p; unfold st1 st1K; first | (rw [trn_K]; rfl) | rw [trn_K]
theorem bfs_K (n : Nat) : ∀ (k : Nat) (f : List (List Pr)) (at_ : Nat), bfs n k f at_ = bfsK n k f at_
  | 0, f, at_ => rfl
  | k + 1, f, at_ => by
    unfold bfs bfsK
    rw [bfs_K n k]
    unfold stp stpK
    rw [st1_K]
theorem okB_K (l m : List Pr) : okB l m = fun o => (l.map (ap o)).isPerm m := by
  funext o
  rw [Bool.eq_iff_iff, okB_iff, List.isPerm_iff]
theorem line_find : (pm 3).find? (okB line enil) = some [2, 1, 0] := by
  rw [okB_K]
  decide +kernel
theorem line_own : (pm 3).filter (okB line line) = [[0, 1, 2]] := by
  rw [okB_K]
  decide +kernel
theorem fork_own : (pm 3).filter (okB fork fork) = [[0, 1, 2], [0, 2, 1]] := by
  rw [okB_K]
  decide +kernel
theorem line_shapes : (shapes 3 line).length = 4 := by
  unfold shapes
  rw [bfs_K, srt_K]
  decide +kernel
noncomputable def w1 (Hn : Fn) : FS := (setF 1 (caF Hn (consA (varF 0) nilA)))
noncomputable def w2 (I : Fm) : FS := (setF 2 (mkF 0 I (consA (shF (.int 3)) (consA (tupF (consA (tupF (consA (shF (.int 0)) (consA (shF (.int 1)) nilA))) (consA (tupF (consA (shF (.int 1)) (consA (shF (.int 2)) nilA))) nilA))) nilA))))
noncomputable def w3 (B O : Fn) (I : Fm) : FS := (ifS (orT (cmpT neD (caF B (consA (varF 2) (consA (mkF 0 I (consA (shF (.int 3)) (consA (tupF (consA (tupF (consA (shF (.int 2)) (consA (shF (.int 1)) nilA))) (consA (tupF (consA (shF (.int 1)) (consA (shF (.int 0)) nilA))) nilA))) nilA))) nilA))) (tupF (consA (shF (.int 2)) (consA (shF (.int 1)) (consA (shF (.int 0)) nilA))))) (cmpT neD (caF O (consA (varF 2) nilA)) (lstF (consA (tupF (consA (shF (.int 0)) (consA (shF (.int 1)) (consA (shF (.int 2)) nilA)))) nilA)))) (retF (shF (.bl false))) nxF)
noncomputable def w4 (T O : Fn) (I : Fm) : FS := (ifS (orT (cmpT neD (clF lenD (consA (caF T (consA (varF 2) nilA)) nilA)) (shF (.int 4))) (cmpT neD (caF O (consA (mkF 0 I (consA (shF (.int 3)) (consA (tupF (consA (tupF (consA (shF (.int 0)) (consA (shF (.int 1)) nilA))) (consA (tupF (consA (shF (.int 0)) (consA (shF (.int 2)) nilA))) nilA))) nilA))) nilA)) (lstF (consA (tupF (consA (shF (.int 0)) (consA (shF (.int 1)) (consA (shF (.int 2)) nilA)))) (consA (tupF (consA (shF (.int 0)) (consA (shF (.int 2)) (consA (shF (.int 1)) nilA)))) nilA))))) (retF (shF (.bl false))) nxF)
noncomputable def w5b (F A Q P : Fi) (U : Fn) : FS := (seqF (setF 4 (binF addD (shF (.int 1)) (ioF 1 F (consA (shF (.int 4)) nilA))))
    (seqF (setF 5 (ioF 1 A (consA (varF 4) nilA)))
    (seqF (ifS (orT (notT (truF (ioF 1 Q (consA (varF 4) (consA (varF 5) nilA))))) (notT (truF (ioF 1 P (consA (varF 4) (consA (varF 5) nilA)))))) (retF (shF (.bl false))) nxF)
    (ifS (notT (truF (caF U (consA (varF 4) (consA (varF 5) nilA))))) (retF (shF (.bl false))) nxF))))
noncomputable def w5 (F A Q P : Fi) (U : Fn) : FS := (forF (rg1I (consA (shF (.int 3)) nilA)) (gnF 3) (seqF (setF 4 (binF addD (shF (.int 1)) (ioF 1 F (consA (shF (.int 4)) nilA))))
    (seqF (setF 5 (ioF 1 A (consA (varF 4) nilA)))
    (seqF (ifS (orT (notT (truF (ioF 1 Q (consA (varF 4) (consA (varF 5) nilA))))) (notT (truF (ioF 1 P (consA (varF 4) (consA (varF 5) nilA)))))) (retF (shF (.bl false))) nxF)
    (ifS (notT (truF (caF U (consA (varF 4) (consA (varF 5) nilA))))) (retF (shF (.bl false))) nxF)))))
noncomputable def w6 : FS := (retF (shF (.bl true)))
theorem law_turn {F A Q P : Fi} {U : Fn} (hF : DrawOk F)
    (hA : ∀ (n : Nat) h, 1 ≤ n ∧ n ≤ 4 → HandP h → ∃ (h' : List D) (l : List Pr), HandP h' ∧ WebP n l ∧ l.length ≤ 5 ∧ A h [.int n] = some (h', .sh (eL l)))
    (hQ : ∀ (n : Nat) l h, 1 ≤ n ∧ n ≤ 4 → WebP n l → HandP h → ∃ h', HandP h' ∧ Q h [.int n, eL l] = some (h', .sh (.bl true)))
    (hP : ∀ (n : Nat) l h, 1 ≤ n ∧ n ≤ 4 → WebP n l → l.length ≤ 5 → HandP h → ∃ h', HandP h' ∧ P h [.int n, eL l] = some (h', .sh (.bl true)))
    (hU : ∀ (n : Nat) l, 1 ≤ n ∧ n ≤ 4 → WebP n l → l.length ≤ 5 → U [.int n, eL l] = some (.ok (.sh (.bl true))))
    {e0 e2 e3 e4 e5 : Ent} (o4 : opn (some e4)) (o5 : opn (some e5)) {h : List D} (H : HandP h) :
    ∃ h' e4' e5', opn (some e4') ∧ opn (some e5') ∧ HandP h' ∧ w5b F A Q P U [e0, .own (.lst h), e2, e3, e4, e5] = some (.nx [e0, .own (.lst h'), e2, e3, e4', e5']) := by
  obtain ⟨h1, r, H1, r0, r1, a1⟩ := hF.go h H 4 (by omega)
  obtain ⟨r, rfl⟩ := Int.eq_ofNat_of_zero_le r0
  have hn : 1 ≤ 1 + r ∧ 1 + r ≤ 4 := by omega
  obtain ⟨h2, l, H2, w, h5, a2⟩ := hA (1 + r) h1 hn H1
  obtain ⟨h3, H3, a3⟩ := hQ (1 + r) l h2 hn w H2
  obtain ⟨h4, H4, a4⟩ := hP (1 + r) l h3 hn w h5 H3
  have a5 := hU (1 + r) l hn w h5
  have s1 : setF 4 (binF addD (shF (.int 1)) (ioF 1 F (consA (shF (.int 4)) nilA))) [e0, .own (.lst h), e2, e3, e4, e5] = some (.nx [e0, .own (.lst h1), e2, e3, .sh (.int (1 + r : Nat)), e5]) := by
    have k : ioF 1 F (consA (shF (.int 4)) nilA) [e0, .own (.lst h), e2, e3, e4, e5] = some (.ok (.sh (.int (r : Nat))) [e0, .own (.lst h1), e2, e3, e4, e5]) :=
      io_ok (i := 1) (e1 := [e0, .own (.lst h), e2, e3, e4, e5]) (e2 := [e0, .own (.lst h), e2, e3, e4, e5]) (rs := [.sh (.int 4)]) (ds := [.int 4]) rfl rfl rfl rfl a1
    refine set_ok (bin_ok (da := .int 1) (db := .int (r : Nat)) rfl k rfl rfl (addI _ _)) ?_
    rw [put_sh (i := 4) o4]
    simp
  have s2 : setF 5 (ioF 1 A (consA (varF 4) nilA)) [e0, .own (.lst h1), e2, e3, .sh (.int (1 + r : Nat)), e5] = some (.nx [e0, .own (.lst h2), e2, e3, .sh (.int (1 + r : Nat)), .sh (eL l)]) :=
    set_ok (io_ok (i := 1) (e1 := [e0, .own (.lst h1), e2, e3, .sh (.int (1 + r : Nat)), e5]) (e2 := [e0, .own (.lst h1), e2, e3, .sh (.int (1 + r : Nat)), e5]) (rs := [.sh (.int (1 + r : Nat))]) (ds := [.int (1 + r : Nat)]) rfl rfl rfl rfl a2) (put_sh (i := 5) o5)
  have k3 : ioF 1 Q (consA (varF 4) (consA (varF 5) nilA)) [e0, .own (.lst h2), e2, e3, .sh (.int (1 + r : Nat)), .sh (eL l)] = some (.ok (.sh (.bl true)) [e0, .own (.lst h3), e2, e3, .sh (.int (1 + r : Nat)), .sh (eL l)]) :=
    io_ok (i := 1) (e1 := [e0, .own (.lst h2), e2, e3, .sh (.int (1 + r : Nat)), .sh (eL l)]) (e2 := [e0, .own (.lst h2), e2, e3, .sh (.int (1 + r : Nat)), .sh (eL l)]) (rs := [.sh (.int (1 + r : Nat)), .sh (eL l)]) (ds := [.int (1 + r : Nat), eL l]) rfl rfl rfl rfl a3
  have k4 : ioF 1 P (consA (varF 4) (consA (varF 5) nilA)) [e0, .own (.lst h3), e2, e3, .sh (.int (1 + r : Nat)), .sh (eL l)] = some (.ok (.sh (.bl true)) [e0, .own (.lst h4), e2, e3, .sh (.int (1 + r : Nat)), .sh (eL l)]) :=
    io_ok (i := 1) (e1 := [e0, .own (.lst h3), e2, e3, .sh (.int (1 + r : Nat)), .sh (eL l)]) (e2 := [e0, .own (.lst h3), e2, e3, .sh (.int (1 + r : Nat)), .sh (eL l)]) (rs := [.sh (.int (1 + r : Nat)), .sh (eL l)]) (ds := [.int (1 + r : Nat), eL l]) rfl rfl rfl rfl a4
  have k5 : caF U (consA (varF 4) (consA (varF 5) nilA)) [e0, .own (.lst h4), e2, e3, .sh (.int (1 + r : Nat)), .sh (eL l)] = some (.ok (.sh (.bl true)) [e0, .own (.lst h4), e2, e3, .sh (.int (1 + r : Nat)), .sh (eL l)]) :=
    ca_ok (ds := [.int (1 + r : Nat), eL l]) (consA_ok rfl (consA_ok rfl nilA_ok)) rfl a5 rfl
  exact ⟨h4, _, _, .inr ⟨_, rfl⟩, .inr ⟨_, rfl⟩, H4, seq_ok s1 (seq_ok s2 (seq_ok (if_f (or_f (not_ok (b := true) (tru_ok (d := .bl true) k3 rfl rfl)) (not_ok (b := true) (tru_ok (d := .bl true) k4 rfl rfl))) rfl) (if_f (not_ok (b := true) (tru_ok (d := .bl true) k5 rfl rfl)) rfl)))⟩
theorem law_run {F A Q P : Fi} {U Hn B O T : Fn} {I : Fm} {s : D} (hF : DrawOk F)
    (hA : ∀ (n : Nat) h, 1 ≤ n ∧ n ≤ 4 → HandP h → ∃ (h' : List D) (l : List Pr), HandP h' ∧ WebP n l ∧ l.length ≤ 5 ∧ A h [.int n] = some (h', .sh (eL l)))
    (hQ : ∀ (n : Nat) l h, 1 ≤ n ∧ n ≤ 4 → WebP n l → HandP h → ∃ h', HandP h' ∧ Q h [.int n, eL l] = some (h', .sh (.bl true)))
    (hP : ∀ (n : Nat) l h, 1 ≤ n ∧ n ≤ 4 → WebP n l → l.length ≤ 5 → HandP h → ∃ h', HandP h' ∧ P h [.int n, eL l] = some (h', .sh (.bl true)))
    (hU : ∀ (n : Nat) l, 1 ≤ n ∧ n ≤ 4 → WebP n l → l.length ≤ 5 → U [.int n, eL l] = some (.ok (.sh (.bl true))))
    (hH : ∃ h, HandP h ∧ Hn [s] = some (.ok (.fr (.lst h))) ∧ ∃ cs r, h = .lst cs :: r)
    (hI : ∀ (m : List Pr), WebP (3 : Nat) m → I [.int 3, eL m] = some [.int 3, eL m])
    (hB : B [webD 3 line, webD 3 enil] = some (.ok (.sh (eO [2, 1, 0]))))
    (hO1 : O [webD 3 line] = some (.ok (.fr (.lst ([[0, 1, 2]].map eO)))))
    (hO2 : O [webD 3 fork] = some (.ok (.fr (.lst ([[0, 1, 2], [0, 2, 1]].map eO)))))
    (hT : ∃ x xs, (x :: xs).length = 4 ∧ T [webD 3 line] = some (.ok (.fr (.lst ((x :: xs).map (webD 3)))))) :
    runF 1 6 (seqF (w1 Hn) (seqF (w2 I) (seqF (w3 B O I) (seqF (w4 T O I) (seqF (w5 F A Q P U) w6))))) [s] = some (.ok (.sh (.bl true))) := by
  obtain ⟨h, H, eH, cs, hr, rfl⟩ := hH
  have s1 : w1 Hn [.sh s, .no, .no, .no, .no, .no] = some (.nx [.sh s, .own (.lst (.lst cs :: hr)), .no, .no, .no, .no]) :=
    set_ok (ca_st (ds := [s]) (rs := [.sh s]) (ds' := [s]) rfl rfl eH rfl rfl) rfl
  have s2 : w2 I [.sh s, .own (.lst (.lst cs :: hr)), .no, .no, .no, .no] = some (.nx [.sh s, .own (.lst (.lst cs :: hr)), .sh (webD 3 line), .no, .no, .no]) :=
    set_ok (mk_ok (cl := 0) (rs := [.sh (.int 3), .sh (eL line)]) (ds := [.int 3, eL line]) rfl rfl (hI line line_web)) rfl
  have s3 : w3 B O I [.sh s, .own (.lst (.lst cs :: hr)), .sh (webD 3 line), .no, .no, .no] = some (.nx [.sh s, .own (.lst (.lst cs :: hr)), .sh (webD 3 line), .no, .no, .no]) := by
    have mk := mk_ok (cl := 0) (f := I) (env := [.sh s, .own (.lst (.lst cs :: hr)), .sh (webD 3 line), .no, .no, .no]) (fs := (consA (shF (.int 3)) (consA (tupF (consA (tupF (consA (shF (.int 2)) (consA (shF (.int 1)) nilA))) (consA (tupF (consA (shF (.int 1)) (consA (shF (.int 0)) nilA))) nilA))) nilA))) (rs := [.sh (.int 3), .sh (eL enil)]) (ds := [.int 3, eL enil]) rfl rfl (hI enil enil_web)
    have e1 : neD (eO [2, 1, 0]) (eO [2, 1, 0]) = some false := ne_eO _
    have e2 : neD (.lst ([[0, 1, 2]].map eO)) (.lst ([[0, 1, 2]].map eO)) = some false := ne_eOs _
    exact if_f (or_f (cmp_ok (da := eO [2, 1, 0]) (db := eO [2, 1, 0]) (ca_ok (ds := [webD 3 line, webD 3 enil]) (consA_ok (r := .sh (webD 3 line)) rfl (consA_ok mk nilA_ok)) rfl hB rfl) rfl rfl rfl e1) (cmp_ok (da := .lst ([[0, 1, 2]].map eO)) (db := .lst ([[0, 1, 2]].map eO)) (ca_ok (ds := [webD 3 line]) (consA_ok (r := .sh (webD 3 line)) rfl nilA_ok) rfl hO1 rfl) rfl rfl rfl e2)) rfl
  obtain ⟨x, xs, hx4, hTe⟩ := hT
  have s4 : w4 T O I [.sh s, .own (.lst (.lst cs :: hr)), .sh (webD 3 line), .no, .no, .no] = some (.nx [.sh s, .own (.lst (.lst cs :: hr)), .sh (webD 3 line), .no, .no, .no]) := by
    have mk := mk_ok (cl := 0) (f := I) (env := [.sh s, .own (.lst (.lst cs :: hr)), .sh (webD 3 line), .no, .no, .no]) (fs := (consA (shF (.int 3)) (consA (tupF (consA (tupF (consA (shF (.int 0)) (consA (shF (.int 1)) nilA))) (consA (tupF (consA (shF (.int 0)) (consA (shF (.int 2)) nilA))) nilA))) nilA))) (rs := [.sh (.int 3), .sh (eL fork)]) (ds := [.int 3, eL fork]) rfl rfl (hI fork fork_web)
    have e2 : neD (.lst ([[0, 1, 2], [0, 2, 1]].map eO)) (.lst ([[0, 1, 2], [0, 2, 1]].map eO)) = some false := ne_eOs _
    have e1 : neD (.int (((x :: xs).map (webD 3)).length : Nat)) (.int 4) = some false := by rw [List.length_map, hx4]; exact ne_same 4
    exact if_f (or_f (cmp_ok (da := .int (((x :: xs).map (webD 3)).length : Nat)) (db := .int 4) (cl_ok (f := lenD) (ds := [.lst ((x :: xs).map (webD 3))]) (consA_ok (ca_st (ds := [webD 3 line]) (rs := [.sh (webD 3 line)]) (ds' := [webD 3 line]) rfl rfl hTe rfl rfl) nilA_ok) rfl (lenL _)) rfl rfl rfl e1) (cmp_ok (da := .lst ([[0, 1, 2], [0, 2, 1]].map eO)) (db := .lst ([[0, 1, 2], [0, 2, 1]].map eO)) (ca_ok (ds := [webD 3 fork]) (consA_ok mk nilA_ok) rfl hO2 rfl) rfl rfl rfl e2)) rfl
  obtain ⟨e', h1, h', e3, e4, e5, o3, o4, o5, H', rfl⟩ := forL_keep (g := gnF 3) (b := w5b F A Q P U) (fun e => ∃ h' e3 e4 e5, opn (some e3) ∧ opn (some e4) ∧ opn (some e5) ∧ HandP h' ∧ e = [.sh s, .own (.lst h'), .sh (webD 3 line), e3, e4, e5]) ((List.range 3).map fun (i : Nat) => D.int i) [.sh s, .own (.lst (.lst cs :: hr)), .sh (webD 3 line), .no, .no, .no] (fun d _ e he => by
    obtain ⟨h', e3, e4, e5, o3, o4, o5, H', rfl⟩ := he
    obtain ⟨h2, e4', e5', o4', o5', H2, k⟩ := law_turn hF hA hQ hP hU (e0 := .sh s) (e2 := .sh (webD 3 line)) (e3 := .sh d) o4 o5 H'
    exact ⟨_, _, gn_ok (i := 3) o3, k, h2, .sh d, e4', e5', .inr ⟨_, rfl⟩, o4', o5', H2, rfl⟩) ⟨_, .no, .no, .no, .inl rfl, .inl rfl, .inl rfl, H, rfl⟩
  have s5 : w5 F A Q P U [.sh s, .own (.lst (.lst cs :: hr)), .sh (webD 3 line), .no, .no, .no] = some (.nx [.sh s, .own (.lst h'), .sh (webD 3 line), e3, e4, e5]) :=
    for_ok (rg1_ok (n := 3) (by omega) rfl) rfl h1
  exact runF_rt rfl (seq_ok s1 (seq_ok s2 (seq_ok s3 (seq_ok s4 (seq_ok s5 rfl))))) rfl
theorem law_true (ns : List Int) (hn : ns.length ≤ 63) : f_law [.scr (ns.map .int)] = some (.ok (.sh (.bl true))) := by
  refine law_run draw_ok (fun n h hn H => ok_arrows hn H) (fun n l h hn w H => ok_orders_right hn w H) (fun n l h hn w h5 H => ok_others_right hn w h5 H) (fun n l hn w h5 => ok_turns_right hn w h5) ?_ (fun m w => w.init) ?_ ?_ ?_ ?_
  · obtain ⟨h, H, e⟩ := hand_run hn
    obtain ⟨cs, i, l, s, k, rfl, _⟩ := H.ex
    exact ⟨_, H, e, _, _, rfl⟩
  · have := ok_shape_order (n := 3) (k := 3) (by omega) line_web (m := enil) (by decide)
    rw [if_pos ⟨rfl, rfl⟩, line_find] at this
    exact this
  · have := ok_own_orders (n := 3) (by omega) line_web
    rw [line_own] at this
    exact this
  · have := ok_own_orders (n := 3) (by omega) fork_web
    rw [fork_own] at this
    exact this
  · have h1 := ok_turned_shapes (n := 3) (by omega) line_web (by decide)
    have h2 := line_shapes
    cases k : shapes 3 line with
    | nil => rw [k] at h2; cases h2
    | cons x xs =>
      rw [k] at h1 h2
      exact ⟨x, xs, h2, h1⟩
end K94
namespace K94
open PySem PySem.Spec L2 Ev
/-! printed by gen.py: the head -/
def dd_is_integer : He.DefD := ⟨("is_integer", none), "is_integer", "is_integer", defArgs s_is_integer, defBody s_is_integer, defScope s_is_integer, [], []⟩
def dd_is_within : He.DefD := ⟨("is_within", none), "is_within", "is_within", defArgs s_is_within, defBody s_is_within, defScope s_is_within, [], []⟩
def dd_is_tuple : He.DefD := ⟨("is_tuple", none), "is_tuple", "is_tuple", defArgs s_is_tuple, defBody s_is_tuple, defScope s_is_tuple, [], []⟩
def dd_is_row : He.DefD := ⟨("is_row", none), "is_row", "is_row", defArgs s_is_row, defBody s_is_row, defScope s_is_row, [], []⟩
def dd_Web_order_from : He.DefD := ⟨("Web", some "order_from"), "order_from", "Web.order_from", defArgs s_Web_order_from, defBody s_Web_order_from, defScope s_Web_order_from, [], []⟩
def dd_Web___init__ : He.DefD := ⟨("Web", some "__init__"), "__init__", "Web.__init__", defArgs s_Web___init__, defBody s_Web___init__, defScope s_Web___init__, [], []⟩
def dd_Web___eq__ : He.DefD := ⟨("Web", some "__eq__"), "__eq__", "Web.__eq__", defArgs s_Web___eq__, defBody s_Web___eq__, defScope s_Web___eq__, [], []⟩
def dd_form_by : He.DefD := ⟨("form_by", none), "form_by", "form_by", defArgs s_form_by, defBody s_form_by, defScope s_form_by, [], []⟩
def dd_orders_of : He.DefD := ⟨("orders_of", none), "orders_of", "orders_of", defArgs s_orders_of, defBody s_orders_of, defScope s_orders_of, [], []⟩
def dd_with_places : He.DefD := ⟨("with_places", none), "with_places", "with_places", defArgs s_with_places, defBody s_with_places, defScope s_with_places, [], []⟩
def dd_shape_order : He.DefD := ⟨("shape_order", none), "shape_order", "shape_order", defArgs s_shape_order, defBody s_shape_order, defScope s_shape_order, [], []⟩
def dd_own_orders : He.DefD := ⟨("own_orders", none), "own_orders", "own_orders", defArgs s_own_orders, defBody s_own_orders, defScope s_own_orders, [], []⟩
def dd_is_shape_order : He.DefD := ⟨("is_shape_order", none), "is_shape_order", "is_shape_order", defArgs s_is_shape_order, defBody s_is_shape_order, defScope s_is_shape_order, [], []⟩
def dd_turned_shapes : He.DefD := ⟨("turned_shapes", none), "turned_shapes", "turned_shapes", defArgs s_turned_shapes, defBody s_turned_shapes, defScope s_turned_shapes, [], []⟩
def dd_form_is_kept : He.DefD := ⟨("form_is_kept", none), "form_is_kept", "form_is_kept", defArgs s_form_is_kept, defBody s_form_is_kept, defScope s_form_is_kept, [], []⟩
def dd__law_hand : He.DefD := ⟨("_law_hand", none), "_law_hand", "_law_hand", defArgs s__law_hand, defBody s__law_hand, defScope s__law_hand, [], []⟩
def dd__law_draw : He.DefD := ⟨("_law_draw", none), "_law_draw", "_law_draw", defArgs s__law_draw, defBody s__law_draw, defScope s__law_draw, [], []⟩
def dd__law_any : He.DefD := ⟨("_law_any", none), "_law_any", "_law_any", defArgs s__law_any, defBody s__law_any, defScope s__law_any, [], []⟩
def dd__law_mixed : He.DefD := ⟨("_law_mixed", none), "_law_mixed", "_law_mixed", defArgs s__law_mixed, defBody s__law_mixed, defScope s__law_mixed, [], []⟩
def dd__law_arrows : He.DefD := ⟨("_law_arrows", none), "_law_arrows", "_law_arrows", defArgs s__law_arrows, defBody s__law_arrows, defScope s__law_arrows, [], []⟩
def dd__law_orders : He.DefD := ⟨("_law_orders", none), "_law_orders", "_law_orders", defArgs s__law_orders, defBody s__law_orders, defScope s__law_orders, [], []⟩
def dd__law_called : He.DefD := ⟨("_law_called", none), "_law_called", "_law_called", defArgs s__law_called, defBody s__law_called, defScope s__law_called, [], []⟩
def dd__law_shape_orders : He.DefD := ⟨("_law_shape_orders", none), "_law_shape_orders", "_law_shape_orders", defArgs s__law_shape_orders, defBody s__law_shape_orders, defScope s__law_shape_orders, [], []⟩
def dd__law_turned : He.DefD := ⟨("_law_turned", none), "_law_turned", "_law_turned", defArgs s__law_turned, defBody s__law_turned, defScope s__law_turned, [], []⟩
def dd__law_shapes : He.DefD := ⟨("_law_shapes", none), "_law_shapes", "_law_shapes", defArgs s__law_shapes, defBody s__law_shapes, defScope s__law_shapes, [], []⟩
def dd__law_judged_right : He.DefD := ⟨("_law_judged_right", none), "_law_judged_right", "_law_judged_right", defArgs s__law_judged_right, defBody s__law_judged_right, defScope s__law_judged_right, [], []⟩
def dd__law_orders_right : He.DefD := ⟨("_law_orders_right", none), "_law_orders_right", "_law_orders_right", defArgs s__law_orders_right, defBody s__law_orders_right, defScope s__law_orders_right, [], []⟩
def dd__law_less : He.DefD := ⟨("_law_less", none), "_law_less", "_law_less", defArgs s__law_less, defBody s__law_less, defScope s__law_less, [], []⟩
def dd__law_others_right : He.DefD := ⟨("_law_others_right", none), "_law_others_right", "_law_others_right", defArgs s__law_others_right, defBody s__law_others_right, defScope s__law_others_right, [], []⟩
def dd__law_turns_right : He.DefD := ⟨("_law_turns_right", none), "_law_turns_right", "_law_turns_right", defArgs s__law_turns_right, defBody s__law_turns_right, defScope s__law_turns_right, [], []⟩
def dd_law : He.DefD := ⟨("law", none), "law", "law", defArgs s_law, defBody s_law, defScope s_law, [], []⟩
def fns : List He.DefD := [dd_is_integer, dd_is_within, dd_is_tuple, dd_is_row, dd_Web_order_from, dd_Web___init__, dd_Web___eq__, dd_form_by, dd_orders_of, dd_with_places, dd_shape_order, dd_own_orders, dd_is_shape_order, dd_turned_shapes, dd_form_is_kept, dd__law_hand, dd__law_draw, dd__law_any, dd__law_mixed, dd__law_arrows, dd__law_orders, dd__law_called, dd__law_shape_orders, dd__law_turned, dd__law_shapes, dd__law_judged_right, dd__law_orders_right, dd__law_less, dd__law_others_right, dd__law_turns_right, dd_law]
def fas : List He.Fa := [.glo "is_integer", .glo "is_within", .glo "is_tuple", .glo "is_row", .meth "Web" "order_from", .meth "Web" "__init__", .meth "Web" "__eq__", .glo "form_by", .glo "orders_of", .glo "with_places", .glo "shape_order", .glo "own_orders", .glo "is_shape_order", .glo "turned_shapes", .glo "form_is_kept", .glo "_law_hand", .glo "_law_draw", .glo "_law_any", .glo "_law_mixed", .glo "_law_arrows", .glo "_law_orders", .glo "_law_called", .glo "_law_shape_orders", .glo "_law_turned", .glo "_law_shapes", .glo "_law_judged_right", .glo "_law_orders_right", .glo "_law_less", .glo "_law_others_right", .glo "_law_turns_right", .glo "law", .free "abs", .free "all", .free "any", .free "bool", .free "enumerate", .free "int", .free "isinstance", .free "len", .free "list", .free "range", .free "repr", .free "set", .free "sorted", .free "sum", .free "tuple", .free "zip", .int "MOST_PLACES" 8, .int "MOST_ARROWS" 14, .int "MOST_ORDERS" 5040, .glo "Web", .cls "Web", .mkr "Web", .noat "Web" "places", .noat "Web" "arrows"]
def exW (K : PySem.W.Frag) : Bool := He.eqO (PySem.W.findIn K (.ref (He.ga K "Web")) "__class__") (some (some (.builtin "object.__class__"))) && (He.eqO (PySem.W.specialIn K (.builtin "object.__class__") "__get__") (some (some (.builtin "getset_descriptor.__get__"))) &&
  (decide (PySem.W.takesIn K (.builtin "object.__class__") = some true) && (decide (PySem.W.mroIn K (He.ga K "Web") (.type "object") = some true) && (decide (PySem.W.kitOne K (.ref (He.ga K "Web")) (.ref (He.ga K "Web")) = some true) && He.eqO (PySem.W.findIn K (.ref (He.ga K "Web")) "__ne__") (some (some (.builtin "object.__ne__")))))))
abbrev Cx0 (K : PySem.W.Frag) : Tc := ⟨fun _ => (He.ga K "Web", nms_Web), fun _ => 0⟩
theorem facts {P : Program} {w : World} {K : PySem.W.Frag} {h : Heap} {mg : Str → Option Value} {f : Addr} (X : K.In h) (G : h.Ns mainGlobals mg) (hfa : mg ("law" : Str) = some (.ref f)) (cs : He.SaysX fas fns [] [] exW w h K) :
    ∃ fd : FuncData, (∀ (s : Shared) (v : Value), BindsTo s fd ⟨[v], []⟩ [("script", v)]) ∧ ∀ base : Heap, K.In base → base.Ns mainGlobals mg → FnG P w K mg base (L2.CX P w) 9 f fd ["script"] (spP ⟨K, (Cx0 K).ct, (Cx0 K).xc⟩ f_law) := by
  have c := cs.t.d
  have M : Mg mg := ⟨He.free_ok X G (c.fact 31 rfl), He.free_ok X G (c.fact 32 rfl), He.free_ok X G (c.fact 33 rfl), He.free_ok X G (c.fact 34 rfl), He.free_ok X G (c.fact 35 rfl), He.free_ok X G (c.fact 36 rfl), He.free_ok X G (c.fact 37 rfl), He.free_ok X G (c.fact 38 rfl), He.free_ok X G (c.fact 39 rfl), He.free_ok X G (c.fact 40 rfl), He.free_ok X G (c.fact 41 rfl), He.free_ok X G (c.fact 42 rfl), He.free_ok X G (c.fact 43 rfl), He.free_ok X G (c.fact 44 rfl), He.free_ok X G (c.fact 45 rfl), He.free_ok X G (c.fact 46 rfl), He.int_ok X G (c.fact 47 rfl), He.int_ok X G (c.fact 48 rfl), He.int_ok X G (c.fact 49 rfl)⟩
  have hx := cs.more
  unfold exW at hx
  obtain ⟨x1, hx⟩ := He.ba hx
  obtain ⟨x2, hx⟩ := He.ba hx
  obtain ⟨x3, hx⟩ := He.ba hx
  obtain ⟨x4, hx⟩ := He.ba hx
  obtain ⟨x5, x6⟩ := He.ba hx
  have hcl : Cls K (He.ga K "Web") := He.cls_ok (c.fact 51 rfl)
  have W : Wf K mg (He.ga K "Web") := ⟨hcl, ⟨hcl, He.eqO_ok x1, He.eqO_ok x2, of_decide_eq_true x3, of_decide_eq_true x4, of_decide_eq_true x5⟩, He.noat_ok (c.fact 53 rfl), He.noat_ok (c.fact 54 rfl), He.glo_ok X G (c.fact 50 rfl)⟩
  have hc : ∀ k, (Cx0 K).ct k = (He.ga K "Web", nms_Web) := fun _ => rfl
  obtain ⟨fd_is_integer, D_is_integer⟩ := c.def_ 0 (d := dd_is_integer) rfl
  obtain ⟨fd_is_within, D_is_within⟩ := c.def_ 1 (d := dd_is_within) rfl
  obtain ⟨fd_is_tuple, D_is_tuple⟩ := c.def_ 2 (d := dd_is_tuple) rfl
  obtain ⟨fd_is_row, D_is_row⟩ := c.def_ 3 (d := dd_is_row) rfl
  obtain ⟨fd_Web_order_from, D_Web_order_from⟩ := c.def_ 4 (d := dd_Web_order_from) rfl
  obtain ⟨fd_Web___init__, D_Web___init__⟩ := c.def_ 5 (d := dd_Web___init__) rfl
  obtain ⟨fd_Web___eq__, D_Web___eq__⟩ := c.def_ 6 (d := dd_Web___eq__) rfl
  obtain ⟨fd_form_by, D_form_by⟩ := c.def_ 7 (d := dd_form_by) rfl
  obtain ⟨fd_orders_of, D_orders_of⟩ := c.def_ 8 (d := dd_orders_of) rfl
  obtain ⟨fd_with_places, D_with_places⟩ := c.def_ 9 (d := dd_with_places) rfl
  obtain ⟨fd_shape_order, D_shape_order⟩ := c.def_ 10 (d := dd_shape_order) rfl
  obtain ⟨fd_own_orders, D_own_orders⟩ := c.def_ 11 (d := dd_own_orders) rfl
  obtain ⟨fd_is_shape_order, D_is_shape_order⟩ := c.def_ 12 (d := dd_is_shape_order) rfl
  obtain ⟨fd_turned_shapes, D_turned_shapes⟩ := c.def_ 13 (d := dd_turned_shapes) rfl
  obtain ⟨fd_form_is_kept, D_form_is_kept⟩ := c.def_ 14 (d := dd_form_is_kept) rfl
  obtain ⟨fd__law_hand, D__law_hand⟩ := c.def_ 15 (d := dd__law_hand) rfl
  obtain ⟨fd__law_draw, D__law_draw⟩ := c.def_ 16 (d := dd__law_draw) rfl
  obtain ⟨fd__law_any, D__law_any⟩ := c.def_ 17 (d := dd__law_any) rfl
  obtain ⟨fd__law_mixed, D__law_mixed⟩ := c.def_ 18 (d := dd__law_mixed) rfl
  obtain ⟨fd__law_arrows, D__law_arrows⟩ := c.def_ 19 (d := dd__law_arrows) rfl
  obtain ⟨fd__law_orders, D__law_orders⟩ := c.def_ 20 (d := dd__law_orders) rfl
  obtain ⟨fd__law_called, D__law_called⟩ := c.def_ 21 (d := dd__law_called) rfl
  obtain ⟨fd__law_shape_orders, D__law_shape_orders⟩ := c.def_ 22 (d := dd__law_shape_orders) rfl
  obtain ⟨fd__law_turned, D__law_turned⟩ := c.def_ 23 (d := dd__law_turned) rfl
  obtain ⟨fd__law_shapes, D__law_shapes⟩ := c.def_ 24 (d := dd__law_shapes) rfl
  obtain ⟨fd__law_judged_right, D__law_judged_right⟩ := c.def_ 25 (d := dd__law_judged_right) rfl
  obtain ⟨fd__law_orders_right, D__law_orders_right⟩ := c.def_ 26 (d := dd__law_orders_right) rfl
  obtain ⟨fd__law_less, D__law_less⟩ := c.def_ 27 (d := dd__law_less) rfl
  obtain ⟨fd__law_others_right, D__law_others_right⟩ := c.def_ 28 (d := dd__law_others_right) rfl
  obtain ⟨fd__law_turns_right, D__law_turns_right⟩ := c.def_ 29 (d := dd__law_turns_right) rfl
  obtain ⟨fd_law, D_law⟩ := c.def_ 30 (d := dd_law) rfl
  have e := hfa.symm.trans (He.glo_ok X G (c.fact 30 (f := .glo "law") rfl))
  cases e
  have B_is_integer : Binds K fd_is_integer ["thing"] [] := D_is_integer.bindsN fun _ _ _ _ _ _ us hl => match us, hl with | [_], _ => rfl
  have B_is_within : Binds K fd_is_within ["thing", "least", "most"] [] := D_is_within.bindsN fun _ _ _ _ _ _ us hl => match us, hl with | [_, _, _], _ => rfl
  have B_is_tuple : Binds K fd_is_tuple ["thing", "least", "most"] [] := D_is_tuple.bindsN fun _ _ _ _ _ _ us hl => match us, hl with | [_, _, _], _ => rfl
  have B_is_row : Binds K fd_is_row ["thing", "many", "least", "most"] [] := D_is_row.bindsN fun _ _ _ _ _ _ us hl => match us, hl with | [_, _, _, _], _ => rfl
  have B_Web_order_from : Binds K fd_Web_order_from ["self"] [] := D_Web_order_from.bindsN fun _ _ _ _ _ _ us hl => match us, hl with | [_], _ => rfl
  have B_Web___init__ : Binds K fd_Web___init__ ["self", "places", "arrows"] [] := D_Web___init__.bindsN fun _ _ _ _ _ _ us hl => match us, hl with | [_, _, _], _ => rfl
  have B_Web___eq__ : Binds K fd_Web___eq__ ["self", "other"] [] := D_Web___eq__.bindsN fun _ _ _ _ _ _ us hl => match us, hl with | [_, _], _ => rfl
  have B_form_by : Binds K fd_form_by ["web", "one", "other"] [] := D_form_by.bindsN fun _ _ _ _ _ _ us hl => match us, hl with | [_, _, _], _ => rfl
  have B_orders_of : Binds K fd_orders_of ["many"] [] := D_orders_of.bindsN fun _ _ _ _ _ _ us hl => match us, hl with | [_], _ => rfl
  have B_with_places : Binds K fd_with_places ["web", "order"] [] := D_with_places.bindsN fun _ _ _ _ _ _ us hl => match us, hl with | [_, _], _ => rfl
  have B_shape_order : Binds K fd_shape_order ["web", "other"] [] := D_shape_order.bindsN fun _ _ _ _ _ _ us hl => match us, hl with | [_, _], _ => rfl
  have B_own_orders : Binds K fd_own_orders ["web"] [] := D_own_orders.bindsN fun _ _ _ _ _ _ us hl => match us, hl with | [_], _ => rfl
  have B_is_shape_order : Binds K fd_is_shape_order ["web", "other", "thing"] [] := D_is_shape_order.bindsN fun _ _ _ _ _ _ us hl => match us, hl with | [_, _, _], _ => rfl
  have B_turned_shapes : Binds K fd_turned_shapes ["web"] [] := D_turned_shapes.bindsN fun _ _ _ _ _ _ us hl => match us, hl with | [_], _ => rfl
  have B_form_is_kept : Binds K fd_form_is_kept ["web", "order"] [] := D_form_is_kept.bindsN fun _ _ _ _ _ _ us hl => match us, hl with | [_, _], _ => rfl
  have B__law_hand : Binds K fd__law_hand ["script"] [] := D__law_hand.bindsN fun _ _ _ _ _ _ us hl => match us, hl with | [_], _ => rfl
  have B__law_draw : Binds K fd__law_draw ["hand", "many"] [] := D__law_draw.bindsN fun _ _ _ _ _ _ us hl => match us, hl with | [_, _], _ => rfl
  have B__law_any : Binds K fd__law_any ["hand", "some"] [] := D__law_any.bindsN fun _ _ _ _ _ _ us hl => match us, hl with | [_, _], _ => rfl
  have B__law_mixed : Binds K fd__law_mixed ["hand", "some"] [] := D__law_mixed.bindsN fun _ _ _ _ _ _ us hl => match us, hl with | [_, _], _ => rfl
  have B__law_arrows : Binds K fd__law_arrows ["hand", "many"] [] := D__law_arrows.bindsN fun _ _ _ _ _ _ us hl => match us, hl with | [_, _], _ => rfl
  have B__law_orders : Binds K fd__law_orders ["many"] [] := D__law_orders.bindsN fun _ _ _ _ _ _ us hl => match us, hl with | [_], _ => rfl
  have B__law_called : Binds K fd__law_called ["arrows", "order"] [] := D__law_called.bindsN fun _ _ _ _ _ _ us hl => match us, hl with | [_, _], _ => rfl
  have B__law_shape_orders : Binds K fd__law_shape_orders ["many", "arrows", "other"] [] := D__law_shape_orders.bindsN fun _ _ _ _ _ _ us hl => match us, hl with | [_, _, _], _ => rfl
  have B__law_turned : Binds K fd__law_turned ["arrows", "place"] [] := D__law_turned.bindsN fun _ _ _ _ _ _ us hl => match us, hl with | [_, _], _ => rfl
  have B__law_shapes : Binds K fd__law_shapes ["many", "arrows"] [] := D__law_shapes.bindsN fun _ _ _ _ _ _ us hl => match us, hl with | [_, _], _ => rfl
  have B__law_judged_right : Binds K fd__law_judged_right ["hand", "web", "other", "many", "due"] [] := D__law_judged_right.bindsN fun _ _ _ _ _ _ us hl => match us, hl with | [_, _, _, _, _], _ => rfl
  have B__law_orders_right : Binds K fd__law_orders_right ["hand", "many", "arrows"] [] := D__law_orders_right.bindsN fun _ _ _ _ _ _ us hl => match us, hl with | [_, _, _], _ => rfl
  have B__law_less : Binds K fd__law_less ["arrows", "at"] [] := D__law_less.bindsN fun _ _ _ _ _ _ us hl => match us, hl with | [_, _], _ => rfl
  have B__law_others_right : Binds K fd__law_others_right ["hand", "many", "arrows"] [] := D__law_others_right.bindsN fun _ _ _ _ _ _ us hl => match us, hl with | [_, _, _], _ => rfl
  have B__law_turns_right : Binds K fd__law_turns_right ["many", "arrows"] [] := D__law_turns_right.bindsN fun _ _ _ _ _ _ us hl => match us, hl with | [_, _], _ => rfl
  have bl := FunD.bindsA (ps := ["script"]) D_law fun _ _ _ _ _ _ us hl => match us, hl with | [_], _ => rfl
  have B_law : Binds K fd_law ["script"] [] := D_law.bindsN fun _ _ _ _ _ _ us hl => match us, hl with | [_], _ => rfl
  refine ⟨fd_law, fun s v => bl s [v] rfl, fun base _ _ => ?_⟩
  have G_is_integer : FnG P w K mg base (L2.CX P w) 1 (He.ga K "is_integer") fd_is_integer ["thing"] (spP ⟨K, (Cx0 K).ct, (Cx0 K).xc⟩ f_is_integer) := fn_ok D_is_integer sc_is_integer (by decide) (c := Cx0 K) (fun cdv A outer s H E C => d_is_integer M W hc C) (fun _ _ h => h)
  have F_is_integer : Fnd P w K mg base 1 "is_integer" (spP ⟨K, (Cx0 K).ct, (Cx0 K).xc⟩ f_is_integer) := ⟨_, _, _, G_is_integer, He.glo_ok X G (c.fact 0 rfl), D_is_integer.kp, B_is_integer⟩
  have G_is_within : FnG P w K mg base (L2.CX P w) 2 (He.ga K "is_within") fd_is_within ["thing", "least", "most"] (spP ⟨K, (Cx0 K).ct, (Cx0 K).xc⟩ f_is_within) := fn_ok D_is_within sc_is_within (by decide) (c := Cx0 K) (fun cdv A outer s H E C => d_is_within M W hc (F_is_integer.mono (by decide)) C) (fun _ _ h => h)
  have F_is_within : Fnd P w K mg base 2 "is_within" (spP ⟨K, (Cx0 K).ct, (Cx0 K).xc⟩ f_is_within) := ⟨_, _, _, G_is_within, He.glo_ok X G (c.fact 1 rfl), D_is_within.kp, B_is_within⟩
  have G_is_tuple : FnG P w K mg base (L2.CX P w) 1 (He.ga K "is_tuple") fd_is_tuple ["thing", "least", "most"] (spP ⟨K, (Cx0 K).ct, (Cx0 K).xc⟩ f_is_tuple) := fn_ok D_is_tuple sc_is_tuple (by decide) (c := Cx0 K) (fun cdv A outer s H E C => d_is_tuple M W hc C) (fun _ _ h => h)
  have F_is_tuple : Fnd P w K mg base 1 "is_tuple" (spP ⟨K, (Cx0 K).ct, (Cx0 K).xc⟩ f_is_tuple) := ⟨_, _, _, G_is_tuple, He.glo_ok X G (c.fact 2 rfl), D_is_tuple.kp, B_is_tuple⟩
  have G_is_row : FnG P w K mg base (L2.CX P w) 3 (He.ga K "is_row") fd_is_row ["thing", "many", "least", "most"] (spP ⟨K, (Cx0 K).ct, (Cx0 K).xc⟩ f_is_row) := fn_ok D_is_row sc_is_row (by decide) (c := Cx0 K) (fun cdv A outer s H E C => d_is_row M W hc (F_is_tuple.mono (by decide)) (F_is_within.mono (by decide)) C) (fun _ _ h => h)
  have F_is_row : Fnd P w K mg base 3 "is_row" (spP ⟨K, (Cx0 K).ct, (Cx0 K).xc⟩ f_is_row) := ⟨_, _, _, G_is_row, He.glo_ok X G (c.fact 3 rfl), D_is_row.kp, B_is_row⟩
  have G_Web_order_from : FnG P w K mg base (L2.CX P w) 1 (He.ma K (He.ga K "Web") "order_from") fd_Web_order_from ["self"] (spP ⟨K, (Cx0 K).ct, (Cx0 K).xc⟩ f_Web_order_from) := fn_ok D_Web_order_from sc_Web_order_from (by decide) (c := Cx0 K) (fun cdv A outer s H E C => d_Web_order_from M W hc C) (fun _ _ h => h)
  have G_Web___init__ : FnG P w K mg base (L2.CX P w) 4 (He.ma K (He.ga K "Web") "__init__") fd_Web___init__ ["self", "places", "arrows"] (spM ⟨K, (Cx0 K).ct, (Cx0 K).xc⟩ 0 f_Web___init__) := fn_init (nms := nms_Web) D_Web___init__ sc_Web___init__ (by decide) rfl (c := Cx0 K) (fun cdv A outer s H E C => d_Web___init__ M W hc (F_is_row.mono (by decide)) (F_is_tuple.mono (by decide)) (F_is_within.mono (by decide)) (He.meth_ok (c.fact 4 rfl)) (G_Web_order_from.mono (by decide)) B_Web_order_from C) (fun _ _ h => h)
  have G_Web___eq__ : FnG P w K mg base (L2.CX P w) 1 (He.ma K (He.ga K "Web") "__eq__") fd_Web___eq__ ["self", "other"] (spP ⟨K, (Cx0 K).ct, (Cx0 K).xc⟩ (eqWF 0 2)) := fn_ok D_Web___eq__ sc_Web___eq__ (by decide) (c := Cx0 K) (fun cdv A outer s H E C => d_Web___eq__ M W hc C) eqW_ok
  have EQ : ∀ X : Cx, X.prog = P → X.w = w → X.K = K → X.mg = mg → X.base = base → ∀ {k : Nat}, 1 ≤ k → EqCls X (Cx0 K) 0 2 k := fun X h1 h2 h3 h4 h5 k hk => by
    have mt := He.meth_ok (c.fact 6 (f := .meth "Web" "__eq__") rfl)
    refine ⟨⟨He.ga K "Web", He.ma K (He.ga K "Web") "__eq__", fd_Web___eq__, ["self", "other"], rfl, ?_, ?_, ?_, ?_, ?_, ?_, nd_Web⟩⟩
    · show FnG X.prog X.w X.K X.mg X.base (L2.CX X.prog X.w) k _ _ _ (spP ⟨X.K, (Cx0 K).ct, (Cx0 K).xc⟩ (eqWF 0 2))
      rw [h1, h2, h3, h4, h5]; exact G_Web___eq__.mono hk
    · rw [h3]; exact mt.at_
    · rw [h3]; exact mt.fn
    · rw [h3]; exact B_Web___eq__
    · rw [h3]; exact of_decide_eq_true x4
    · rw [h3]; exact He.eqO_ok x6
  have G_form_by : FnG P w K mg base (L2.CX P w) 1 (He.ga K "form_by") fd_form_by ["web", "one", "other"] (spP ⟨K, (Cx0 K).ct, (Cx0 K).xc⟩ f_form_by) := fn_ok D_form_by sc_form_by (by decide) (c := Cx0 K) (fun cdv A outer s H E C => d_form_by M W hc C) (fun _ _ h => h)
  have F_form_by : Fnd P w K mg base 1 "form_by" (spP ⟨K, (Cx0 K).ct, (Cx0 K).xc⟩ f_form_by) := ⟨_, _, _, G_form_by, He.glo_ok X G (c.fact 7 rfl), D_form_by.kp, B_form_by⟩
  have G_orders_of : FnG P w K mg base (L2.CX P w) 1 (He.ga K "orders_of") fd_orders_of ["many"] (spP ⟨K, (Cx0 K).ct, (Cx0 K).xc⟩ f_orders_of) := fn_ok D_orders_of sc_orders_of (by decide) (c := Cx0 K) (fun cdv A outer s H E C => d_orders_of M W hc C) (fun _ _ h => h)
  have F_orders_of : Fnd P w K mg base 1 "orders_of" (spP ⟨K, (Cx0 K).ct, (Cx0 K).xc⟩ f_orders_of) := ⟨_, _, _, G_orders_of, He.glo_ok X G (c.fact 8 rfl), D_orders_of.kp, B_orders_of⟩
  have G_with_places : FnG P w K mg base (L2.CX P w) 6 (He.ga K "with_places") fd_with_places ["web", "order"] (spP ⟨K, (Cx0 K).ct, (Cx0 K).xc⟩ f_with_places) := fn_ok D_with_places sc_with_places (by decide) (c := Cx0 K) (fun cdv A outer s H E C => d_with_places M W hc ⟨_, _, _, G_Web___init__.mono (by decide), He.mkr_ok (c.fact 52 rfl), He.glo_ok X G (c.fact 50 rfl), B_Web___init__⟩ C) (fun _ _ h => h)
  have F_with_places : Fnd P w K mg base 6 "with_places" (spP ⟨K, (Cx0 K).ct, (Cx0 K).xc⟩ f_with_places) := ⟨_, _, _, G_with_places, He.glo_ok X G (c.fact 9 rfl), D_with_places.kp, B_with_places⟩
  have G_shape_order : FnG P w K mg base (L2.CX P w) 2 (He.ga K "shape_order") fd_shape_order ["web", "other"] (spP ⟨K, (Cx0 K).ct, (Cx0 K).xc⟩ f_shape_order) := fn_ok D_shape_order sc_shape_order (by decide) (c := Cx0 K) (fun cdv A outer s H E C => d_shape_order M W hc (F_orders_of.mono (by decide)) C) (fun _ _ h => h)
  have F_shape_order : Fnd P w K mg base 2 "shape_order" (spP ⟨K, (Cx0 K).ct, (Cx0 K).xc⟩ f_shape_order) := ⟨_, _, _, G_shape_order, He.glo_ok X G (c.fact 10 rfl), D_shape_order.kp, B_shape_order⟩
  have G_own_orders : FnG P w K mg base (L2.CX P w) 2 (He.ga K "own_orders") fd_own_orders ["web"] (spP ⟨K, (Cx0 K).ct, (Cx0 K).xc⟩ f_own_orders) := fn_ok D_own_orders sc_own_orders (by decide) (c := Cx0 K) (fun cdv A outer s H E C => d_own_orders M W hc (F_orders_of.mono (by decide)) C) (fun _ _ h => h)
  have F_own_orders : Fnd P w K mg base 2 "own_orders" (spP ⟨K, (Cx0 K).ct, (Cx0 K).xc⟩ f_own_orders) := ⟨_, _, _, G_own_orders, He.glo_ok X G (c.fact 11 rfl), D_own_orders.kp, B_own_orders⟩
  have G_is_shape_order : FnG P w K mg base (L2.CX P w) 4 (He.ga K "is_shape_order") fd_is_shape_order ["web", "other", "thing"] (spP ⟨K, (Cx0 K).ct, (Cx0 K).xc⟩ f_is_shape_order) := fn_ok D_is_shape_order sc_is_shape_order (by decide) (c := Cx0 K) (fun cdv A outer s H E C => d_is_shape_order M W hc (F_is_row.mono (by decide)) C) (fun _ _ h => h)
  have F_is_shape_order : Fnd P w K mg base 4 "is_shape_order" (spP ⟨K, (Cx0 K).ct, (Cx0 K).xc⟩ f_is_shape_order) := ⟨_, _, _, G_is_shape_order, He.glo_ok X G (c.fact 12 rfl), D_is_shape_order.kp, B_is_shape_order⟩
  have G_turned_shapes : FnG P w K mg base (L2.CX P w) 6 (He.ga K "turned_shapes") fd_turned_shapes ["web"] (spP ⟨K, (Cx0 K).ct, (Cx0 K).xc⟩ f_turned_shapes) := fn_ok D_turned_shapes sc_turned_shapes (by decide) (c := Cx0 K) (fun cdv A outer s H E C => d_turned_shapes M W hc ⟨_, _, _, G_Web___init__.mono (by decide), He.mkr_ok (c.fact 52 rfl), He.glo_ok X G (c.fact 50 rfl), B_Web___init__⟩ (fun X h1 h2 h3 h4 h5 => EQ X h1 h2 h3 h4 h5 (by decide)) C) (fun _ _ h => h)
  have F_turned_shapes : Fnd P w K mg base 6 "turned_shapes" (spP ⟨K, (Cx0 K).ct, (Cx0 K).xc⟩ f_turned_shapes) := ⟨_, _, _, G_turned_shapes, He.glo_ok X G (c.fact 13 rfl), D_turned_shapes.kp, B_turned_shapes⟩
  have G_form_is_kept : FnG P w K mg base (L2.CX P w) 7 (He.ga K "form_is_kept") fd_form_is_kept ["web", "order"] (spP ⟨K, (Cx0 K).ct, (Cx0 K).xc⟩ f_form_is_kept) := fn_ok D_form_is_kept sc_form_is_kept (by decide) (c := Cx0 K) (fun cdv A outer s H E C => d_form_is_kept M W hc (F_form_by.mono (by decide)) (F_with_places.mono (by decide)) C) (fun _ _ h => h)
  have F_form_is_kept : Fnd P w K mg base 7 "form_is_kept" (spP ⟨K, (Cx0 K).ct, (Cx0 K).xc⟩ f_form_is_kept) := ⟨_, _, _, G_form_is_kept, He.glo_ok X G (c.fact 14 rfl), D_form_is_kept.kp, B_form_is_kept⟩
  have G__law_hand : FnG P w K mg base (L2.CX P w) 1 (He.ga K "_law_hand") fd__law_hand ["script"] (spP ⟨K, (Cx0 K).ct, (Cx0 K).xc⟩ f__law_hand) := fn_ok D__law_hand sc__law_hand (by decide) (c := Cx0 K) (fun cdv A outer s H E C => d__law_hand M W hc C) (fun _ _ h => h)
  have F__law_hand : Fnd P w K mg base 1 "_law_hand" (spP ⟨K, (Cx0 K).ct, (Cx0 K).xc⟩ f__law_hand) := ⟨_, _, _, G__law_hand, He.glo_ok X G (c.fact 15 rfl), D__law_hand.kp, B__law_hand⟩
  have G__law_draw : FnG P w K mg base (L2.CX P w) 1 (He.ga K "_law_draw") fd__law_draw ["hand", "many"] (spI ⟨K, (Cx0 K).ct, (Cx0 K).xc⟩ f__law_draw) := fn_io D__law_draw sc__law_draw (by decide) (c := Cx0 K) (fun cdv A outer s H E C => d__law_draw M W hc C) (fun _ _ _ h => h)
  have F__law_draw : Fnd P w K mg base 1 "_law_draw" (spI ⟨K, (Cx0 K).ct, (Cx0 K).xc⟩ f__law_draw) := ⟨_, _, _, G__law_draw, He.glo_ok X G (c.fact 16 rfl), D__law_draw.kp, B__law_draw⟩
  have G__law_any : FnG P w K mg base (L2.CX P w) 2 (He.ga K "_law_any") fd__law_any ["hand", "some"] (spI ⟨K, (Cx0 K).ct, (Cx0 K).xc⟩ f__law_any) := fn_io D__law_any sc__law_any (by decide) (c := Cx0 K) (fun cdv A outer s H E C => d__law_any M W hc (F__law_draw.mono (by decide)) C) (fun _ _ _ h => h)
  have F__law_any : Fnd P w K mg base 2 "_law_any" (spI ⟨K, (Cx0 K).ct, (Cx0 K).xc⟩ f__law_any) := ⟨_, _, _, G__law_any, He.glo_ok X G (c.fact 17 rfl), D__law_any.kp, B__law_any⟩
  have G__law_mixed : FnG P w K mg base (L2.CX P w) 2 (He.ga K "_law_mixed") fd__law_mixed ["hand", "some"] (spI ⟨K, (Cx0 K).ct, (Cx0 K).xc⟩ f__law_mixed) := fn_io D__law_mixed sc__law_mixed (by decide) (c := Cx0 K) (fun cdv A outer s H E C => d__law_mixed M W hc (F__law_draw.mono (by decide)) C) (fun _ _ _ h => h)
  have F__law_mixed : Fnd P w K mg base 2 "_law_mixed" (spI ⟨K, (Cx0 K).ct, (Cx0 K).xc⟩ f__law_mixed) := ⟨_, _, _, G__law_mixed, He.glo_ok X G (c.fact 18 rfl), D__law_mixed.kp, B__law_mixed⟩
  have G__law_arrows : FnG P w K mg base (L2.CX P w) 3 (He.ga K "_law_arrows") fd__law_arrows ["hand", "many"] (spI ⟨K, (Cx0 K).ct, (Cx0 K).xc⟩ f__law_arrows) := fn_io D__law_arrows sc__law_arrows (by decide) (c := Cx0 K) (fun cdv A outer s H E C => d__law_arrows M W hc (F__law_any.mono (by decide)) (F__law_draw.mono (by decide)) (F__law_mixed.mono (by decide)) C) (fun _ _ _ h => h)
  have F__law_arrows : Fnd P w K mg base 3 "_law_arrows" (spI ⟨K, (Cx0 K).ct, (Cx0 K).xc⟩ f__law_arrows) := ⟨_, _, _, G__law_arrows, He.glo_ok X G (c.fact 19 rfl), D__law_arrows.kp, B__law_arrows⟩
  have G__law_orders : FnG P w K mg base (L2.CX P w) 1 (He.ga K "_law_orders") fd__law_orders ["many"] (spP ⟨K, (Cx0 K).ct, (Cx0 K).xc⟩ f__law_orders) := fn_ok D__law_orders sc__law_orders (by decide) (c := Cx0 K) (fun cdv A outer s H E C => d__law_orders M W hc C) (fun _ _ h => h)
  have F__law_orders : Fnd P w K mg base 1 "_law_orders" (spP ⟨K, (Cx0 K).ct, (Cx0 K).xc⟩ f__law_orders) := ⟨_, _, _, G__law_orders, He.glo_ok X G (c.fact 20 rfl), D__law_orders.kp, B__law_orders⟩
  have G__law_called : FnG P w K mg base (L2.CX P w) 1 (He.ga K "_law_called") fd__law_called ["arrows", "order"] (spP ⟨K, (Cx0 K).ct, (Cx0 K).xc⟩ f__law_called) := fn_ok D__law_called sc__law_called (by decide) (c := Cx0 K) (fun cdv A outer s H E C => d__law_called M W hc C) (fun _ _ h => h)
  have F__law_called : Fnd P w K mg base 1 "_law_called" (spP ⟨K, (Cx0 K).ct, (Cx0 K).xc⟩ f__law_called) := ⟨_, _, _, G__law_called, He.glo_ok X G (c.fact 21 rfl), D__law_called.kp, B__law_called⟩
  have G__law_shape_orders : FnG P w K mg base (L2.CX P w) 2 (He.ga K "_law_shape_orders") fd__law_shape_orders ["many", "arrows", "other"] (spP ⟨K, (Cx0 K).ct, (Cx0 K).xc⟩ f__law_shape_orders) := fn_ok D__law_shape_orders sc__law_shape_orders (by decide) (c := Cx0 K) (fun cdv A outer s H E C => d__law_shape_orders M W hc (F__law_called.mono (by decide)) (F__law_orders.mono (by decide)) C) (fun _ _ h => h)
  have F__law_shape_orders : Fnd P w K mg base 2 "_law_shape_orders" (spP ⟨K, (Cx0 K).ct, (Cx0 K).xc⟩ f__law_shape_orders) := ⟨_, _, _, G__law_shape_orders, He.glo_ok X G (c.fact 22 rfl), D__law_shape_orders.kp, B__law_shape_orders⟩
  have G__law_turned : FnG P w K mg base (L2.CX P w) 1 (He.ga K "_law_turned") fd__law_turned ["arrows", "place"] (spP ⟨K, (Cx0 K).ct, (Cx0 K).xc⟩ f__law_turned) := fn_ok D__law_turned sc__law_turned (by decide) (c := Cx0 K) (fun cdv A outer s H E C => d__law_turned M W hc C) (fun _ _ h => h)
  have F__law_turned : Fnd P w K mg base 1 "_law_turned" (spP ⟨K, (Cx0 K).ct, (Cx0 K).xc⟩ f__law_turned) := ⟨_, _, _, G__law_turned, He.glo_ok X G (c.fact 23 rfl), D__law_turned.kp, B__law_turned⟩
  have G__law_shapes : FnG P w K mg base (L2.CX P w) 2 (He.ga K "_law_shapes") fd__law_shapes ["many", "arrows"] (spP ⟨K, (Cx0 K).ct, (Cx0 K).xc⟩ f__law_shapes) := fn_ok D__law_shapes sc__law_shapes (by decide) (c := Cx0 K) (fun cdv A outer s H E C => d__law_shapes M W hc (F__law_turned.mono (by decide)) C) (fun _ _ h => h)
  have F__law_shapes : Fnd P w K mg base 2 "_law_shapes" (spP ⟨K, (Cx0 K).ct, (Cx0 K).xc⟩ f__law_shapes) := ⟨_, _, _, G__law_shapes, He.glo_ok X G (c.fact 24 rfl), D__law_shapes.kp, B__law_shapes⟩
  have G__law_judged_right : FnG P w K mg base (L2.CX P w) 5 (He.ga K "_law_judged_right") fd__law_judged_right ["hand", "web", "other", "many", "due"] (spI ⟨K, (Cx0 K).ct, (Cx0 K).xc⟩ f__law_judged_right) := fn_io D__law_judged_right sc__law_judged_right (by decide) (c := Cx0 K) (fun cdv A outer s H E C => d__law_judged_right M W hc (F__law_any.mono (by decide)) (F__law_draw.mono (by decide)) (F__law_mixed.mono (by decide)) (F_is_shape_order.mono (by decide)) C) (fun _ _ _ h => h)
  have F__law_judged_right : Fnd P w K mg base 5 "_law_judged_right" (spI ⟨K, (Cx0 K).ct, (Cx0 K).xc⟩ f__law_judged_right) := ⟨_, _, _, G__law_judged_right, He.glo_ok X G (c.fact 25 rfl), D__law_judged_right.kp, B__law_judged_right⟩
  have G__law_orders_right : FnG P w K mg base (L2.CX P w) 8 (He.ga K "_law_orders_right") fd__law_orders_right ["hand", "many", "arrows"] (spI ⟨K, (Cx0 K).ct, (Cx0 K).xc⟩ f__law_orders_right) := fn_io D__law_orders_right sc__law_orders_right (by decide) (c := Cx0 K) (fun cdv A outer s H E C => d__law_orders_right M W hc (F__law_called.mono (by decide)) (F__law_judged_right.mono (by decide)) (F__law_mixed.mono (by decide)) (F__law_shape_orders.mono (by decide)) (F_form_is_kept.mono (by decide)) (F_own_orders.mono (by decide)) (F_shape_order.mono (by decide)) (F_with_places.mono (by decide)) ⟨_, _, _, G_Web___init__.mono (by decide), He.mkr_ok (c.fact 52 rfl), He.glo_ok X G (c.fact 50 rfl), B_Web___init__⟩ (fun X h1 h2 h3 h4 h5 => EQ X h1 h2 h3 h4 h5 (by decide)) C) (fun _ _ _ h => h)
  have F__law_orders_right : Fnd P w K mg base 8 "_law_orders_right" (spI ⟨K, (Cx0 K).ct, (Cx0 K).xc⟩ f__law_orders_right) := ⟨_, _, _, G__law_orders_right, He.glo_ok X G (c.fact 26 rfl), D__law_orders_right.kp, B__law_orders_right⟩
  have G__law_less : FnG P w K mg base (L2.CX P w) 1 (He.ga K "_law_less") fd__law_less ["arrows", "at"] (spP ⟨K, (Cx0 K).ct, (Cx0 K).xc⟩ f__law_less) := fn_ok D__law_less sc__law_less (by decide) (c := Cx0 K) (fun cdv A outer s H E C => d__law_less M W hc C) (fun _ _ h => h)
  have F__law_less : Fnd P w K mg base 1 "_law_less" (spP ⟨K, (Cx0 K).ct, (Cx0 K).xc⟩ f__law_less) := ⟨_, _, _, G__law_less, He.glo_ok X G (c.fact 27 rfl), D__law_less.kp, B__law_less⟩
  have G__law_others_right : FnG P w K mg base (L2.CX P w) 6 (He.ga K "_law_others_right") fd__law_others_right ["hand", "many", "arrows"] (spI ⟨K, (Cx0 K).ct, (Cx0 K).xc⟩ f__law_others_right) := fn_io D__law_others_right sc__law_others_right (by decide) (c := Cx0 K) (fun cdv A outer s H E C => d__law_others_right M W hc (F__law_any.mono (by decide)) (F__law_draw.mono (by decide)) (F__law_less.mono (by decide)) (F__law_shape_orders.mono (by decide)) (F_is_shape_order.mono (by decide)) (F_shape_order.mono (by decide)) ⟨_, _, _, G_Web___init__.mono (by decide), He.mkr_ok (c.fact 52 rfl), He.glo_ok X G (c.fact 50 rfl), B_Web___init__⟩ C) (fun _ _ _ h => h)
  have F__law_others_right : Fnd P w K mg base 6 "_law_others_right" (spI ⟨K, (Cx0 K).ct, (Cx0 K).xc⟩ f__law_others_right) := ⟨_, _, _, G__law_others_right, He.glo_ok X G (c.fact 28 rfl), D__law_others_right.kp, B__law_others_right⟩
  have G__law_turns_right : FnG P w K mg base (L2.CX P w) 7 (He.ga K "_law_turns_right") fd__law_turns_right ["many", "arrows"] (spP ⟨K, (Cx0 K).ct, (Cx0 K).xc⟩ f__law_turns_right) := fn_ok D__law_turns_right sc__law_turns_right (by decide) (c := Cx0 K) (fun cdv A outer s H E C => d__law_turns_right M W hc (F__law_shapes.mono (by decide)) (F_turned_shapes.mono (by decide)) ⟨_, _, _, G_Web___init__.mono (by decide), He.mkr_ok (c.fact 52 rfl), He.glo_ok X G (c.fact 50 rfl), B_Web___init__⟩ C) (fun _ _ h => h)
  have F__law_turns_right : Fnd P w K mg base 7 "_law_turns_right" (spP ⟨K, (Cx0 K).ct, (Cx0 K).xc⟩ f__law_turns_right) := ⟨_, _, _, G__law_turns_right, He.glo_ok X G (c.fact 29 rfl), D__law_turns_right.kp, B__law_turns_right⟩
  have G_law : FnG P w K mg base (L2.CX P w) 9 (He.ga K "law") fd_law ["script"] (spP ⟨K, (Cx0 K).ct, (Cx0 K).xc⟩ f_law) := fn_ok D_law sc_law (by decide) (c := Cx0 K) (fun cdv A outer s H E C => d_law M W hc (F__law_arrows.mono (by decide)) (F__law_draw.mono (by decide)) (F__law_hand.mono (by decide)) (F__law_orders_right.mono (by decide)) (F__law_others_right.mono (by decide)) (F__law_turns_right.mono (by decide)) (F_own_orders.mono (by decide)) (F_shape_order.mono (by decide)) (F_turned_shapes.mono (by decide)) ⟨_, _, _, G_Web___init__.mono (by decide), He.mkr_ok (c.fact 52 rfl), He.glo_ok X G (c.fact 50 rfl), B_Web___init__⟩ C) (fun _ _ h => h)
  exact G_law
abbrev R : PySem.W.OpenRow := PySem.W.OpenLaw.row PySem.Challenge.rw_arrowspaces_k94_whole_shapes_and_orders
abbrev hk : PySem.W.Hook := He.hookX 4 fas fns [] [] exW
def ob (s : PySem.W.SharedT) : He.AlX := He.obsX 4 fas fns [] [] exW (HandSHeadRun.getT s)
theorem ob_eq (s : PySem.W.SharedT) : ob s = hk.obs s.abs := He.obsX_eq (HandSHeadRun.getT_eq s)
def loose : List PySem.Str := (["is_integer", "is_within", "is_tuple", "is_row", "SpaceError", "BadWeb", "TooMany", "MOST_PLACES", "MOST_ARROWS", "Web", "form_by", "MOST_ORDERS", "orders_of", "with_places", "shape_order", "own_orders", "is_shape_order", "turned_shapes", "form_is_kept", "_law_hand", "_law_draw", "_law_any", "_law_mixed", "_law_arrows", "_law_orders", "_law_called", "_law_shape_orders", "_law_turned", "_law_shapes", "_law_orders_right"] : List PySem.Str) ++ (["_law_judged_right", "_law_others_right", "_law_less", "_law_turns_right"] : List PySem.Str)
theorem run (w : World) : HandSHeadRun.RunEq R (PySem.W.view R.prog [39]) hk ob 2500 loose w := by
  intro os
  kernel_rfl
end K94
open PySem PySem.W PySem.Calls PyProof.Rows
theorem PySem.Challenge.cw_arrowspaces_k94_whole_shapes_and_orders_holds : PySem.Challenge.rw_arrowspaces_k94_whole_shapes_and_orders.Holds := by
  w_on; o_law
  refine HandSHeadRun.head_any (r := OpenLaw.row PySem.Challenge.rw_arrowspaces_k94_whole_shapes_and_orders) (q := view (OpenLaw.row PySem.Challenge.rw_arrowspaces_k94_whole_shapes_and_orders).prog [39]) (H := K94.hk) (ob := K94.ob) (M := 2500) (loose := K94.loose) (d := HandSHeadRun.topDef (OpenLaw.row PySem.Challenge.rw_arrowspaces_k94_whole_shapes_and_orders).prog 39) (kwd := []) K94.ob_eq
    (by kernel_rfl) (fun s => by kernel_rfl) K94.run (by kernel_rfl) (by kernel_rfl) (by kernel_rfl) (by rfl) (by first | assumption | decide +kernel) (by decide +kernel) ⟨rfl, rfl, rfl, rfl, rfl, by decide +kernel⟩ ?hw ?hc
  case hw => w_witness2
  case hc =>
    refine Ev.walk_end (l := PySem.Challenge.rw_arrowspaces_k94_whole_shapes_and_orders) (n := 63) (k := 9) (x := "script") (f := K94.f_law) rfl (by decide) (by kernel_rfl) ⟨rfl, by decide, by decide⟩ K94.law_true ?_
    intro w mg fa h Y G hmg0
    obtain ⟨K, KX, c⟩ := Y
    have hmg : mg ("law" : PySem.Str) = some (.ref fa) := by
      have e : (HandSHeadRun.topDef (OpenLaw.row PySem.Challenge.rw_arrowspaces_k94_whole_shapes_and_orders).prog 39).name = ("law" : PySem.Str) := by kernel_rfl
      rw [← e]
      exact hmg0
    obtain ⟨fd, hb, hF⟩ := K94.facts (P := (PySem.Challenge.rw_arrowspaces_k94_whole_shapes_and_orders).prog) (w := w) KX G hmg c
    exact ⟨⟨K, (K94.Cx0 K).ct, (K94.Cx0 K).xc⟩, fd, KX, hb, hF⟩
