import PyProof.Rows.All
import Wide.All
import OpenK.AllK
import Wide.FinOn
import HandS.ForMost
import HandS.ForExc
import HandS.CallSlots
import HandS.Wide
import HandS.Gcd
import HandS.Deep
import HandS.TupAny
import HandS.IsInst
import HandS.TryMany
import HandS.ExcIs
import HandS.Defaults
import HandS.Flow
import KE.SortData
import KE.DataCmp
import HandS.TupMul
import HandS.Conv
import HandS.HeadEnd
import HandS.HeadHook1
import HandS.HeadHook2
import HandS.HeadHook3
import HandS.HeadHook4
import HandS.Head0
import HandS.Head1
import HandS.Head2
import HandS.Head3
import HandS.EndBits
import PySem.Challenge.RW_nolunch_k04_markets_from_markets
set_option Elab.async false
set_option linter.all false
set_option maxRecDepth 100000
set_option maxHeartbeats 0
set_option exponentiation.threshold 10000
/-! Pure values, their places in the abstract heap, denotations, and their readings. -/
namespace Py
open PySem PySem.Spec L2

/-! ### values -/
inductive PV where
  | non | bl (b : Bool) | int (i : Int) | str (x : Str) | tup (xs : List PV) | lst (xs : List PV) | ref (n : Nat) | scr (ns : List Int)
  deriving Inhabited

inductive Err where
  | base | zeroDen | text | market | tooLarge | moment | plan | program | contract | history | way | sureGain | deal | unsafe_ | pending | journal
  deriving DecidableEq

/-- a boxed object -/
inductive MO where
  | lst (xs : List PV)
abbrev Store := List MO
/-- what an expression comes to -/
inductive Res (α : Type) where
  | ok (a : α) (S : Store) | exc (e : Err) (S : Store) | bad

/-- a local name: without a value, with a value that stands still, with a list of its own -/
inductive Cell where
  | un | fz (v : PV) | ow (v : PV) | ex
abbrev Env := List Cell

mutual
def Rp (K : PySem.W.Frag) (F : Hp) (β : List Addr) : PV → V → Prop
  | .non, w => w = .non
  | .bl b, w => w = .bl b
  | .int i, w => w = .int i
  | .str x, w => w = .str x
  | .tup xs, w => ∃ a vs, w = .ref a ∧ SqT K F a vs ∧ vs.length ≤ sizeLine ∧ Rps K F β xs vs
  | .lst xs, w => ∃ a vs, w = .ref a ∧ F a = some (.lst vs) ∧ vs.length ≤ sizeLine ∧ Rps K F β xs vs
  | .ref n, w => ∃ a, β[n]? = some a ∧ w = .ref a
  | .scr ns, w => ∃ a, w = .ref a ∧ SqL K F a (ns.map V.int) ∧ ns.length ≤ sizeLine
def Rps (K : PySem.W.Frag) (F : Hp) (β : List Addr) : List PV → List V → Prop
  | [], vs => vs = []
  | x :: xs, vs => ∃ v r, vs = v :: r ∧ Rp K F β x v ∧ Rps K F β xs r
end

/-- F' has all of F -/
abbrev FLe (F F' : Hp) : Prop := ∀ a o, F a = some o → F' a = some o
theorem FLe.refl (F : Hp) : FLe F F := fun _ _ h => h
theorem FLe.trans {F G H : Hp} (a : FLe F G) (b : FLe G H) : FLe F H := fun x o h => b x o (a x o h)
theorem FLe.rd {F F' : Hp} (l : FLe F F') {a : Addr} {u : HO} (h : Rd F a u) : Rd F' a u := by
  rcases h with h | ⟨o, h⟩
  · exact .inl (l _ _ h)
  · exact .inr ⟨o, l _ _ h⟩
theorem FLe.sqT {K : PySem.W.Frag} {F F' : Hp} (l : FLe F F') {a : Addr} {xs : List V} (h : SqT K F a xs) : SqT K F' a xs := by
  rcases h with h | h
  · exact .inl (l.rd h)
  · exact .inr h
theorem FLe.sqL {K : PySem.W.Frag} {F F' : Hp} (l : FLe F F') {a : Addr} {xs : List V} (h : SqL K F a xs) : SqL K F' a xs := by
  rcases h with h | h
  · exact .inl (l.rd h)
  · exact .inr h
theorem pre_get {β β' : List Addr} (p : β <+: β') {n : Nat} {a : Addr} (h : β[n]? = some a) : β'[n]? = some a := by
  obtain ⟨r, rfl⟩ := p
  have hn : n < β.length := (List.getElem?_eq_some_iff.mp h).1
  rw [List.getElem?_append_left hn]; exact h

section
variable {K : PySem.W.Frag} {F F' : Hp} {β β' : List Addr}
mutual
theorem Rp.mono (l : FLe F F') (p : β <+: β') : ∀ (v : PV) (w : V), Rp K F β v w → Rp K F' β' v w
  | .non, _, h => h
  | .bl _, _, h => h
  | .int _, _, h => h
  | .str _, _, h => h
  | .tup xs, w, h => by
    obtain ⟨a, vs, e, h1, hz, h2⟩ := h
    exact ⟨a, vs, e, l.sqT h1, hz, Rps.mono l p xs vs h2⟩
  | .lst xs, w, h => by
    obtain ⟨a, vs, e, h1, hz, h2⟩ := h
    exact ⟨a, vs, e, l _ _ h1, hz, Rps.mono l p xs vs h2⟩
  | .ref n, w, h => by
    obtain ⟨a, h1, h2⟩ := h
    exact ⟨a, pre_get p h1, h2⟩
  | .scr ns, w, h => by
    obtain ⟨a, e, h1, h2⟩ := h
    exact ⟨a, e, l.sqL h1, h2⟩
theorem Rps.mono (l : FLe F F') (p : β <+: β') : ∀ (xs : List PV) (vs : List V), Rps K F β xs vs → Rps K F' β' xs vs
  | [], _, h => h
  | x :: xs, _, h => by
    obtain ⟨v, r, e, h1, h2⟩ := h
    exact ⟨v, r, e, Rp.mono l p x v h1, Rps.mono l p xs r h2⟩
end
theorem Rps.length : ∀ {xs : List PV} {vs : List V}, Rps K F β xs vs → xs.length = vs.length
  | [], _, h => by cases h; rfl
  | x :: xs, _, h => by
    obtain ⟨v, r, rfl, _, h2⟩ := h
    simp [Rps.length h2]
theorem Rps.get : ∀ {xs : List PV} {vs : List V} {i : Nat} {x : PV}, Rps K F β xs vs → xs[i]? = some x → ∃ v, vs[i]? = some v ∧ Rp K F β x v
  | [], _, _, _, _, e => by simp at e
  | y :: xs, _, 0, x, h, e => by
    obtain ⟨v, r, rfl, h1, _⟩ := h
    simp at e; subst e
    exact ⟨v, rfl, h1⟩
  | y :: xs, _, i + 1, x, h, e => by
    obtain ⟨v, r, rfl, _, h2⟩ := h
    obtain ⟨u, h3, h4⟩ := Rps.get (i := i) (x := x) h2 (by simpa using e)
    exact ⟨u, by simpa using h3, h4⟩
theorem Rps.get' {xs : List PV} {vs : List V} {i : Nat} {v : V} (h : Rps K F β xs vs) (e : vs[i]? = some v) : ∃ x, xs[i]? = some x ∧ Rp K F β x v := by
  have hl := h.length
  have hi : i < vs.length := (List.getElem?_eq_some_iff.mp e).1
  have hx : xs[i]? = some (xs[i]'(by omega)) := by simp [hl, hi]
  obtain ⟨u, h1, h2⟩ := h.get hx
  rw [e] at h1; cases h1
  exact ⟨_, hx, h2⟩
theorem Rps.append : ∀ {xs ys : List PV} {vs ws : List V}, Rps K F β xs vs → Rps K F β ys ws → Rps K F β (xs ++ ys) (vs ++ ws)
  | [], _, _, _, h, h' => by cases h; exact h'
  | x :: xs, _, _, _, h, h' => by
    obtain ⟨v, r, rfl, h1, h2⟩ := h
    exact ⟨v, _, rfl, h1, Rps.append h2 h'⟩
theorem Rps.one {x : PV} {v : V} (h : Rp K F β x v) : Rps K F β [x] [v] := ⟨v, [], rfl, h, rfl⟩
theorem Rps.set {x : PV} {v : V} (hx : Rp K F β x v) : ∀ {xs : List PV} {vs : List V} (i : Nat), Rps K F β xs vs → Rps K F β (xs.set i x) (vs.set i v)
  | [], _, _, h => by cases h; exact rfl
  | y :: xs, _, 0, h => by
    obtain ⟨u, r, rfl, _, h2⟩ := h
    exact ⟨v, r, rfl, hx, h2⟩
  | y :: xs, _, i + 1, h => by
    obtain ⟨u, r, rfl, h1, h2⟩ := h
    exact ⟨u, _, rfl, h1, Rps.set hx i h2⟩
theorem Rps.take : ∀ {xs : List PV} {vs : List V} (n : Nat), Rps K F β xs vs → Rps K F β (xs.take n) (vs.take n)
  | _, _, 0, _ => rfl
  | [], _, n + 1, h => by cases h; exact rfl
  | x :: xs, _, n + 1, h => by
    obtain ⟨v, r, rfl, h1, h2⟩ := h
    exact ⟨v, _, rfl, h1, Rps.take n h2⟩
theorem Rps.drop : ∀ {xs : List PV} {vs : List V} (n : Nat), Rps K F β xs vs → Rps K F β (xs.drop n) (vs.drop n)
  | _, _, 0, h => h
  | [], _, n + 1, h => by cases h; exact rfl
  | x :: xs, _, n + 1, h => by
    obtain ⟨v, r, rfl, h1, h2⟩ := h
    exact Rps.drop (xs := xs) n h2
theorem Rps.reverse : ∀ {xs : List PV} {vs : List V}, Rps K F β xs vs → Rps K F β xs.reverse vs.reverse
  | [], _, h => by cases h; exact rfl
  | x :: xs, _, h => by
    obtain ⟨v, r, rfl, h1, h2⟩ := h
    rw [List.reverse_cons, List.reverse_cons]
    exact Rps.append (Rps.reverse h2) (Rps.one h1)
end

/-! ### the heap beside it -/
def BoxAt (K : PySem.W.Frag) (F : Hp) (β : List Addr) (H : Hp) (a : Addr) : MO → Prop
  | .lst xs => ∃ vs, H a = some (.lst vs) ∧ vs.length ≤ sizeLine ∧ Rps K F β xs vs
/-- a list that stands at a, of a name's own -/
def OwnAt (K : PySem.W.Frag) (F : Hp) (β : List Addr) (H : Hp) (a : Addr) : PV → Prop
  | .lst xs => ∃ vs, H a = some (.lst vs) ∧ vs.length ≤ sizeLine ∧ Rps K F β xs vs
  | _ => False
structure HRel (K : PySem.W.Frag) (F : Hp) (β : List Addr) (S : Store) (H : Hp) : Prop where
  le : FLe F H
  len : β.length = S.length
  nd : β.Nodup
  bf : ∀ b ∈ β, F b = none
  box : ∀ (n : Nat) (o : MO) (a : Addr), S[n]? = some o → β[n]? = some a → BoxAt K F β H a o
/-- from one heap to a later one -/
structure Stp (F : Hp) (β : List Addr) (H F' : Hp) (β' : List Addr) (H' : Hp) : Prop where
  mono : FLe F F'
  pre : β <+: β'
  keep : ∀ a o, H a = some o → a ∉ β → H' a = some o
  sep : ∀ a o, H a = some o → F a = none → a ∉ β → F' a = none ∧ a ∉ β'
  there : ∀ a o, H a = some o → ∃ o', H' a = some o'
theorem Stp.refl (F : Hp) (β : List Addr) (H : Hp) : Stp F β H F β H := ⟨FLe.refl F, List.prefix_refl β, fun _ _ h _ => h, fun _ _ _ h1 h2 => ⟨h1, h2⟩, fun a o h => ⟨o, h⟩⟩
theorem Stp.trans {F F1 F2 H H1 H2 : Hp} {β β1 β2 : List Addr} {S1 : Store} {K : PySem.W.Frag} (a : Stp F β H F1 β1 H1) (r : HRel K F1 β1 S1 H1) (b : Stp F1 β1 H1 F2 β2 H2) : Stp F β H F2 β2 H2 where
  mono := a.mono.trans b.mono
  pre := List.IsPrefix.trans a.pre b.pre
  keep := fun x o h hb => by
    have h1 := a.keep x o h hb
    refine b.keep x o h1 fun hm => ?_
    cases e : F x with
    | none => exact (a.sep x o h e hb).2 hm
    | some u =>
      have := r.bf x hm
      rw [a.mono x u e] at this; cases this
  sep := fun x o h hf hb => by
    obtain ⟨h1, h2⟩ := a.sep x o h hf hb
    exact b.sep x o (a.keep x o h hb) h1 h2
  there := fun x o h => by
    obtain ⟨o1, h1⟩ := a.there x o h
    exact b.there x o1 h1

/-- the names -/
structure ERel (K : PySem.W.Frag) (F : Hp) (β : List Addr) (H0 : Hp) (xA : Addr) (H : Hp) (ρ : Env) (σ : St) : Prop where
  len : ρ.length = σ.length
  fz : ∀ (i : Nat) (v : PV), ρ[i]? = some (.fz v) → ∃ w, σ[i]? = some (some w) ∧ Rp K F β v w
  ow : ∃ α : Nat → Addr, (∀ (i : Nat) (v : PV), ρ[i]? = some (.ow v) → σ[i]? = some (some (.ref (α i))) ∧ F (α i) = none ∧ α i ∉ β ∧ H0 (α i) = none ∧ OwnAt K F β H (α i) v) ∧
    ∀ (i j : Nat) (v v' : PV), ρ[i]? = some (.ow v) → ρ[j]? = some (.ow v') → α i = α j → i = j
  ex : ∀ i : Nat, ρ[i]? = some .ex → σ[i]? = some (some (.ref xA))
theorem OwnAt.get {K : PySem.W.Frag} {F H : Hp} {β : List Addr} {a : Addr} {v : PV} (h : OwnAt K F β H a v) : ∃ o, H a = some o := by
  cases v with
  | lst xs => obtain ⟨vs, h, _⟩ := h; exact ⟨_, h⟩
  | _ => cases h
theorem OwnAt.mono {K : PySem.W.Frag} {F F' H H' : Hp} {β β' : List Addr} {a : Addr} {v : PV} (l : FLe F F') (p : β <+: β') (k : ∀ o, H a = some o → H' a = some o) (h : OwnAt K F β H a v) : OwnAt K F' β' H' a v := by
  cases v with
  | lst xs => obtain ⟨vs, h, hz, r⟩ := h; exact ⟨vs, k _ h, hz, Rps.mono l p _ _ r⟩
  | _ => cases h
theorem ERel.step {xA : Addr} {K : PySem.W.Frag} {F F' H0 H H' : Hp} {β β' : List Addr} {ρ : Env} {σ : St} (e : ERel K F β H0 xA H ρ σ) (s : Stp F β H F' β' H') : ERel K F' β' H0 xA H' ρ σ where
  len := e.len
  fz := fun i v h => by
    obtain ⟨w, h1, h2⟩ := e.fz i v h
    exact ⟨w, h1, Rp.mono s.mono s.pre v w h2⟩
  ow := by
    obtain ⟨α, h1, h2⟩ := e.ow
    refine ⟨α, fun i v h => ?_, h2⟩
    obtain ⟨q1, q2, q3, q4, q5⟩ := h1 i v h
    obtain ⟨o, ho⟩ := q5.get
    obtain ⟨s1, s2⟩ := s.sep _ _ ho q2 q3
    exact ⟨q1, s1, s2, q4, q5.mono s.mono s.pre fun u hu => s.keep _ _ hu q3⟩
  ex := e.ex

/-! ### readings -/
abbrev Dn := Env → Store → Res PV
abbrev Dna := Env → Store → Res (List PV)
/-- what stands around: the written part, the classes of errors, the wish about exceptions, the heap at the entry -/
structure CC where
  K : PySem.W.Frag
  errC : Err → Addr
  W : WX
  F0 : Hp
  B0 : List Addr
  H0 : Hp
  xA : Addr := 0

def Outc {α : Type} (C : CC) (F : Hp) (β : List Addr) (H : Hp) (σ : St) (r : Res α) (P : α → Store → Hp → List Addr → Hp → Prop) : Prop :=
  match r with
  | .ok v S' => ∀ F' β' H', Stp F β H F' β' H' → HRel C.K F' β' S' H' → P v S' F' β' H'
  | .exc e S' => ∀ F' β' H', Stp F β H F' β' H' → HRel C.K F' β' S' H' → C.W (.ref (C.errC e)) none σ H'
  | .bad => False

/-- the reading of an expression: its value stands still -/
def rd (C : CC) (m : Dn) : TE := fun σ H Q => ∃ F β S ρ, HRel C.K F β S H ∧ ERel C.K F β C.H0 C.xA H ρ σ ∧ Stp C.F0 C.B0 C.H0 F β H ∧
  Outc C F β H σ (m ρ S) fun v S' F' β' H' => ∀ w, Rp C.K F' β' v w → Q w H'
/-- a value that is read at once: it stands still, or it is a name's own list -/
def RpB (K : PySem.W.Frag) (F : Hp) (β : List Addr) (H : Hp) (v : PV) (w : V) : Prop :=
  Rp K F β v w ∨ ∃ a, w = .ref a ∧ F a = none ∧ a ∉ β ∧ OwnAt K F β H a v
def rdB (C : CC) (m : Dn) : TE := fun σ H Q => ∃ F β S ρ, HRel C.K F β S H ∧ ERel C.K F β C.H0 C.xA H ρ σ ∧ Stp C.F0 C.B0 C.H0 F β H ∧
  Outc C F β H σ (m ρ S) fun v S' F' β' H' => ∀ w, RpB C.K F' β' H' v w → Q w H'
/-- a new list -/
def rdN (C : CC) (m : Dn) : TE := fun σ H Q => ∃ F β S ρ, HRel C.K F β S H ∧ ERel C.K F β C.H0 C.xA H ρ σ ∧ Stp C.F0 C.B0 C.H0 F β H ∧
  Outc C F β H σ (m ρ S) fun v S' F' β' H' => ∀ a, H a = none → F' a = none → a ∉ β' → OwnAt C.K F' β' H' a v → Q (.ref a) H'
def rdA (C : CC) (m : Dna) : TA := fun σ H Q => ∃ F β S ρ, HRel C.K F β S H ∧ ERel C.K F β C.H0 C.xA H ρ σ ∧ Stp C.F0 C.B0 C.H0 F β H ∧
  Outc C F β H σ (m ρ S) fun vs S' F' β' H' => ∀ ws, Rps C.K F' β' vs ws → Q ws H'
def rdT (C : CC) (m : Dn) : TT := fun σ H Q => ∃ F β S ρ, HRel C.K F β S H ∧ ERel C.K F β C.H0 C.xA H ρ σ ∧ Stp C.F0 C.B0 C.H0 F β H ∧
  Outc C F β H σ (m ρ S) fun v S' F' β' H' => ∃ b, v = .bl b ∧ Q b H'

theorem _root_.L2.PE.imp {X : Cx} {e : Expr} {t t' : TE} (h : PE X e t) (i : ∀ σ H Q, t' σ H Q → t σ H Q) : PE X e t' := ⟨fun pins s σ H Q I q => h.run pins s σ H Q I (i σ H Q q)⟩
theorem _root_.L2.PT.imp {X : Cx} {e : Expr} {t t' : TT} (h : PT X e t) (i : ∀ σ H Q, t' σ H Q → t σ H Q) : PT X e t' := ⟨fun pins s σ H Q I q => h.run pins s σ H Q I (i σ H Q q)⟩
theorem _root_.L2.PW.imp {X : Cx} {e : Expr} {t t' : TT} (h : PW X e t) (i : ∀ σ H Q, t' σ H Q → t σ H Q) : PW X e t' := ⟨fun wh pins s σ H Q I q => h.run wh pins s σ H Q I (i σ H Q q)⟩
theorem _root_.L2.PA.imp {X : Cx} {es : List Expr} {t t' : TA} (h : PA X es t) (i : ∀ σ H Q, t' σ H Q → t σ H Q) : PA X es t' := ⟨fun pos pins s σ H Q I q => h.run pos pins s σ H Q I (i σ H Q q)⟩
theorem _root_.L2.PS.imp {X : Cx} {st : Stmt} {t t' : TS} (h : PS X st t) (i : ∀ D σ H, t' D σ H → t D σ H) : PS X st t' := ⟨fun pins s σ H D I q => h.run pins s σ H D I (i D σ H q)⟩
theorem _root_.L2.PSs.imp {X : Cx} {st : List Stmt} {t t' : TS} (h : PSs X st t) (i : ∀ D σ H, t' D σ H → t D σ H) : PSs X st t' := ⟨fun pins s σ H D I q => h.run pins s σ H D I (i D σ H q)⟩

/-- one behind the other -/
def bnd {α β : Type} (r : Res α) (f : α → Store → Res β) : Res β := match r with
  | .ok v S => f v S
  | .exc e S => .exc e S
  | .bad => .bad
@[simp] theorem bnd_ok {α β : Type} (v : α) (S : Store) (f : α → Store → Res β) : bnd (.ok v S) f = f v S := rfl
@[simp] theorem bnd_exc {α β : Type} (e : Err) (S : Store) (f : α → Store → Res β) : bnd (.exc e S : Res α) f = .exc e S := rfl
@[simp] theorem bnd_bad {α β : Type} (f : α → Store → Res β) : bnd (.bad : Res α) f = .bad := rfl

section
variable {C : CC} {σ : St} {H F : Hp} {β : List Addr}
theorem Outc.mono {α : Type} {r : Res α} {P P' : α → Store → Hp → List Addr → Hp → Prop} (h : Outc C F β H σ r P) (i : ∀ v S' F' β' H', Stp F β H F' β' H' → HRel C.K F' β' S' H' → P v S' F' β' H' → P' v S' F' β' H') : Outc C F β H σ r P' := by
  cases r with
  | ok v S' => exact fun F' β' H' s r => i v S' F' β' H' s r (h F' β' H' s r)
  | exc e S' => exact h
  | bad => exact h
/-- the outcome of two in a row, from the first -/
theorem Outc.bind {α γ : Type} {r : Res α} {f : α → Store → Res γ} {P : γ → Store → Hp → List Addr → Hp → Prop} (h : Outc C F β H σ (bnd r f) P) :
    Outc C F β H σ r fun v S' F' β' H' => Outc C F' β' H' σ (f v S') P := by
  cases r with
  | ok v S' =>
    intro F' β' H' s r
    have h : Outc C F β H σ (f v S') P := h
    cases e : f v S' with
    | ok u S2 =>
      rw [e] at h
      exact fun F2 β2 H2 s2 r2 => h F2 β2 H2 (s.trans r s2) r2
    | exc er S2 =>
      rw [e] at h
      exact fun F2 β2 H2 s2 r2 => h F2 β2 H2 (s.trans r s2) r2
    | bad => rw [e] at h; exact h
  | exc e S' => exact h
  | bad => exact h
end

/-- first one, then the next in the state behind it -/
theorem rd_then {C : CC} {m : Dn} {f : PV → Env → Store → Res PV} {σ : St} {H : Hp} {P : Hp → List Addr → Hp → PV → Store → Prop}
    {F : Hp} {β : List Addr} {S : Store} {ρ : Env} (hr : HRel C.K F β S H) (er : ERel C.K F β C.H0 C.xA H ρ σ) (s0 : Stp C.F0 C.B0 C.H0 F β H)
    (h : Outc C F β H σ (bnd (m ρ S) fun v S1 => f v ρ S1) fun v S' F' β' H' => P F' β' H' v S') {Q : VK}
    (k : ∀ v S1 F1 β1 H1 w, Stp F β H F1 β1 H1 → HRel C.K F1 β1 S1 H1 → ERel C.K F1 β1 C.H0 C.xA H1 ρ σ → Stp C.F0 C.B0 C.H0 F1 β1 H1 → Rp C.K F1 β1 v w → Outc C F1 β1 H1 σ (f v ρ S1) (fun v S' F' β' H' => P F' β' H' v S') → Q w H1) : rd C m σ H Q :=
  ⟨F, β, S, ρ, hr, er, s0, h.bind.mono fun v S1 F1 β1 H1 s r o w rw => k v S1 F1 β1 H1 w s r (er.step s) (s0.trans hr s) rw o⟩
end Py
/-! Expressions: the denotations and their readings. -/
namespace Py
open PySem PySem.Spec L2

/-! ### new objects -/
section
variable {K : PySem.W.Frag} {F H : Hp} {β : List Addr} {S : Store}
theorem FLe.upd {F : Hp} {p : Addr} {o : HO} (h : F p = none) : FLe F (upd F p o) := fun a u e => by rw [upd_ne (ne_of_none e h)]; exact e
theorem BoxAt.mono {F' H' : Hp} {β' : List Addr} {a : Addr} {o : MO} (l : FLe F F') (p : β <+: β') (k : ∀ u, H a = some u → H' a = some u) (h : BoxAt K F β H a o) : BoxAt K F' β' H' a o := by
  cases o with
  | lst xs => obtain ⟨vs, h, hz, r⟩ := h; exact ⟨vs, k _ h, hz, Rps.mono l p _ _ r⟩
theorem BoxAt.get {a : Addr} {o : MO} (h : BoxAt K F β H a o) : ∃ u, H a = some u := by
  cases o with
  | lst xs => obtain ⟨vs, h, _⟩ := h; exact ⟨_, h⟩
theorem HRel.there (r : HRel K F β S H) {b : Addr} (hb : b ∈ β) : ∃ u, H b = some u := by
  obtain ⟨n, hn, e⟩ := List.getElem_of_mem hb
  have hs : n < S.length := by rw [← r.len]; exact hn
  exact (r.box n S[n] b (by simp [hs]) (by simp [hn, e])).get
theorem HRel.notIn (r : HRel K F β S H) {p : Addr} (h : H p = none) : p ∉ β := fun hb => by
  obtain ⟨u, e⟩ := r.there hb
  rw [h] at e; cases e
theorem HRel.fnone (r : HRel K F β S H) {p : Addr} (h : H p = none) : F p = none := by
  cases e : F p with
  | none => rfl
  | some u => have := r.le p u e; rw [h] at this; cases this
/-- a new object that stands still -/
theorem HRel.newF (r : HRel K F β S H) {p : Addr} {o : HO} (h : H p = none) : HRel K (upd F p o) β S (upd H p o) ∧ Stp F β H (upd F p o) β (upd H p o) := by
  have hf := r.fnone h
  have hb := r.notIn h
  refine ⟨⟨fun a u e => ?_, r.len, r.nd, fun b hb' => ?_, fun n u a h1 h2 => ?_⟩, ⟨FLe.upd hf, List.prefix_refl β, fun a u e _ => ?_, fun a u e hfa hba => ?_, fun a u e => ?_⟩⟩
  · by_cases ha : a = p
    · subst ha; rw [upd_same] at e ⊢; exact e
    · rw [upd_ne ha] at e ⊢; exact r.le a u e
  · rw [upd_ne (fun e => hb (by rw [← e]; exact hb'))]; exact r.bf b hb'
  · exact (r.box n u a h1 h2).mono (FLe.upd hf) (List.prefix_refl β) fun z e => by rw [upd_ne (ne_of_none e h)]; exact e
  · rw [upd_ne (ne_of_none e h)]; exact e
  · exact ⟨by rw [upd_ne (ne_of_none e h)]; exact hfa, hba⟩
  · exact ⟨u, by rw [upd_ne (ne_of_none e h)]; exact e⟩
/-- a new object beside -/
theorem HRel.newO (r : HRel K F β S H) {p : Addr} {o : HO} (h : H p = none) : HRel K F β S (upd H p o) ∧ Stp F β H F β (upd H p o) := by
  refine ⟨⟨fun a u e => ?_, r.len, r.nd, r.bf, fun n u a h1 h2 => ?_⟩, ⟨FLe.refl F, List.prefix_refl β, fun a u e _ => ?_, fun a u e hfa hba => ⟨hfa, hba⟩, fun a u e => ?_⟩⟩
  · have := r.le a u e
    rw [upd_ne (ne_of_none this h)]; exact this
  · exact (r.box n u a h1 h2).mono (FLe.refl F) (List.prefix_refl β) fun z e => by rw [upd_ne (ne_of_none e h)]; exact e
  · rw [upd_ne (ne_of_none e h)]; exact e
  · exact ⟨u, by rw [upd_ne (ne_of_none e h)]; exact e⟩
/-- a list of one's own stands still from now on -/
theorem HRel.freeze (r : HRel K F β S H) {p : Addr} {vs : List V} (h : H p = some (.lst vs)) (hf : F p = none) (hb : p ∉ β) : HRel K (upd F p (.lst vs)) β S H := by
  refine ⟨fun a u e => ?_, r.len, r.nd, fun b hb' => ?_, fun n u a h1 h2 => ?_⟩
  · by_cases ha : a = p
    · subst ha; rw [upd_same] at e; rw [h]; exact e
    · rw [upd_ne ha] at e; exact r.le a u e
  · rw [upd_ne (fun e => hb (by rw [← e]; exact hb'))]; exact r.bf b hb'
  · exact (r.box n u a h1 h2).mono (FLe.upd hf) (List.prefix_refl β) fun z e => e
end

/-! ### weakenings -/
section
variable {X : Cx} {C : CC} {e : Expr} {m : Dn}
theorem rd_B {σ : L2.St} {H : Hp} {Q : VK} (h : rdB C m σ H Q) : rd C m σ H Q := by
  obtain ⟨F, β, S, ρ, r, er, s0, o⟩ := h
  exact ⟨F, β, S, ρ, r, er, s0, o.mono fun v S' F' β' H' _ _ k w rw => k w (.inl rw)⟩
theorem sim_B (h : PE X e (rd C m)) : PE X e (rdB C m) := h.imp fun _ _ _ => rd_B
/-- a new list stands still -/
theorem sim_N (h : PE X e (rdN C m)) : PE X e (rd C m) := h.imp fun σ H Q q => by
  obtain ⟨F, β, S, ρ, r, er, s0, o⟩ := q
  refine ⟨F, β, S, ρ, r, er, s0, ?_⟩
  cases hm : m ρ S with
  | ok v S' =>
    rw [hm] at o
    intro F' β' H' s r' a h1 h2 h3 h4
    cases v with
    | lst xs =>
      obtain ⟨vs, e1, hz, rp⟩ := h4
      refine o (upd F' a (.lst vs)) β' H' ⟨s.mono.trans (FLe.upd h2), s.pre, s.keep, fun b u e2 e3 e4 => ?_, s.there⟩ (r'.freeze e1 h2 h3) (.ref a) ⟨a, vs, rfl, upd_same, hz, Rps.mono (FLe.upd h2) (List.prefix_refl _) _ _ rp⟩
      obtain ⟨q1, q2⟩ := s.sep b u e2 e3 e4
      refine ⟨?_, q2⟩
      rw [upd_ne (ne_of_none e2 h1)]; exact q1
    | _ => exact h4.elim
  | exc er S' => rw [hm] at o; exact o
  | bad => rw [hm] at o; exact o
end

/-! ### names and constants -/
def dVar (i : Nat) : Dn := fun ρ S => match ρ[i]? with
  | some (.fz v) => .ok v S
  | _ => .bad
def dBor (i : Nat) : Dn := fun ρ S => match ρ[i]? with
  | some (.fz v) => .ok v S
  | some (.ow v) => .ok v S
  | _ => .bad
def dK (v : PV) : Dn := fun _ S => .ok v S
/-- the name x stands in slot i -/
structure NameAt (X : Cx) (x : Str) (i : Nat) : Prop where
  at_ : X.N[i]? = some x
  vis : Vis X.env.scope x
  d1 : (x == ("__debug__" : Str)) = false := by decide
  d2 : (x == ("__classdict__" : Str)) = false := by decide
section
variable {X : Cx} {C : CC} {pos : Pos} {x : Str} {i : Nat}
theorem sim_var (h : NameAt X x i) : PE X (.Name x pos) (rd C (dVar i)) := (pe_var h.at_ h.vis h.d1 h.d2).imp fun σ H Q q => by
  obtain ⟨F, β, S, ρ, r, er, s0, o⟩ := q
  unfold dVar at o
  split at o
  · rename_i v hv
    obtain ⟨w, h1, h2⟩ := er.fz i v hv
    exact ⟨w, h1, o F β H (Stp.refl F β H) r w h2⟩
  · exact o.elim
theorem sim_bor (h : NameAt X x i) : PE X (.Name x pos) (rdB C (dBor i)) := (pe_var h.at_ h.vis h.d1 h.d2).imp fun σ H Q q => by
  obtain ⟨F, β, S, ρ, r, er, s0, o⟩ := q
  unfold dBor at o
  split at o
  · rename_i v hv
    obtain ⟨w, h1, h2⟩ := er.fz i v hv
    exact ⟨w, h1, o F β H (Stp.refl F β H) r w (.inl h2)⟩
  · rename_i v hv
    obtain ⟨α, h1, _⟩ := er.ow
    obtain ⟨q1, q2, q3, q4, q5⟩ := h1 i v hv
    exact ⟨_, q1, o F β H (Stp.refl F β H) r _ (.inr ⟨_, rfl, q2, q3, q5⟩)⟩
  · exact o.elim
/-- a constant: it is there in every heap -/
theorem sim_const {e : Expr} {v : PV} {w : V} (h : PE X e (tC w)) (hv : ∀ F β, Rp C.K F β v w) : PE X e (rd C (dK v)) := h.imp fun σ H Q q => by
  obtain ⟨F, β, S, ρ, r, er, s0, o⟩ := q
  exact o F β H (Stp.refl F β H) r w (hv F β)
theorem sim_int {n : Int} {j : Nat} : PE X (.Constant (.int n) j pos) (rd C (dK (.int n))) := sim_const pe_int fun _ _ => rfl
theorem sim_bl {b : Bool} {j : Nat} : PE X (.Constant (.bool b) j pos) (rd C (dK (.bl b))) := sim_const pe_bl fun _ _ => rfl
theorem sim_non {j : Nat} : PE X (.Constant .none j pos) (rd C (dK .non)) := sim_const pe_non fun _ _ => rfl
theorem sim_str {x : Str} {j : Nat} : PE X (.Constant (.str x) j pos) (rd C (dK (.str x))) := sim_const pe_str fun _ _ => rfl
/-- a module's constant -/
theorem sim_glob {v : PV} {w : V} {u : Value} (hg : Gl X x) (hm : X.mg x = some u) (r : RelV w u) (hv : ∀ F β, Rp C.K F β v w) (hd : (x == ("__debug__" : Str)) = false := by decide) : PE X (.Name x pos) (rd C (dK v)) := sim_const (pe_glob hg hm r hd) hv
end

/-! ### operators by values -/
/-- what an operator makes of two values, and that its rule asks no more -/
abbrev G2 := PV → PV → Store → Option PV
def Op2 (K : PySem.W.Frag) (g : G2) (r : R2) : Prop := ∀ (F : Hp) (β : List Addr) (S : Store) (H : Hp) (v u : PV) (x y : V) (z : PV) (Q : VK), HRel K F β S H → RpB K F β H v x → RpB K F β H u y → g v u S = some z →
  (∀ F' β' H', Stp F β H F' β' H' → HRel K F' β' S H' → ∀ w, Rp K F' β' z w → Q w H') → r x y H Q
def Op2N (K : PySem.W.Frag) (g : G2) (r : R2) : Prop := ∀ (F : Hp) (β : List Addr) (S : Store) (H : Hp) (v u : PV) (x y : V) (z : PV) (Q : VK), HRel K F β S H → RpB K F β H v x → RpB K F β H u y → g v u S = some z →
  (∀ F' β' H', Stp F β H F' β' H' → HRel K F' β' S H' → ∀ a, H a = none → F' a = none → a ∉ β' → OwnAt K F' β' H' a z → Q (.ref a) H') → r x y H Q
theorem Op2.or {K : PySem.W.Frag} {g g' : G2} {r r' : R2} (h : Op2 K g r) (h' : Op2 K g' r') : Op2 K (fun v u S => (g v u S).or (g' v u S)) (fun x y H Q => r x y H Q ∨ r' x y H Q) := by
  intro F β S H v u x y z Q hr hv hu e k
  have e : (g v u S).or (g' v u S) = some z := e
  cases q : g v u S with
  | some a =>
    have e : some a = some z := by rw [q] at e; exact e
    cases e
    exact .inl (h F β S H v u x y _ Q hr hv hu q k)
  | none =>
    have e : g' v u S = some z := by rw [q] at e; exact e
    exact .inr (h' F β S H v u x y z Q hr hv hu e k)
def lift2 (g : G2) (v u : PV) (S : Store) : Res PV := match g v u S with
  | some z => .ok z S
  | none => .bad
def dOp2 (g : G2) (a b : Dn) : Dn := fun ρ S => bnd (a ρ S) fun v S1 => bnd (b ρ S1) fun u S2 => lift2 g v u S2
theorem RpB.step {K : PySem.W.Frag} {F F' H H' : Hp} {β β' : List Addr} {v : PV} {w : V} (h : RpB K F β H v w) (s : Stp F β H F' β' H') : RpB K F' β' H' v w := by
  rcases h with h | ⟨a, e, h1, h2, h3⟩
  · exact .inl (Rp.mono s.mono s.pre v w h)
  · obtain ⟨o, ho⟩ := h3.get
    obtain ⟨q1, q2⟩ := s.sep a o ho h1 h2
    exact .inr ⟨a, e, q1, q2, h3.mono s.mono s.pre fun u hu => s.keep a u hu h2⟩
section
variable {X : Cx} {C : CC} {a b : Expr} {ma mb : Dn} {g : G2} {r : R2} {pos : Pos}
theorem op2_core (ho : Op2 C.K g r) {σ : L2.St} {H : Hp} {Q : VK} (q : rd C (dOp2 g ma mb) σ H Q) : tOp r (rdB C ma) (rdB C mb) σ H Q := by
  obtain ⟨F, β, S, ρ, hr, er, s0, o⟩ := q
  refine ⟨F, β, S, ρ, hr, er, s0, o.bind.mono fun v S1 F1 β1 H1 s1 r1 o1 w rw => ?_⟩
  refine ⟨F1, β1, S1, ρ, r1, er.step s1, s0.trans hr s1, o1.bind.mono fun u S2 F2 β2 H2 s2 r2 o2 w2 rw2 => ?_⟩
  unfold lift2 at o2
  split at o2
  · rename_i z hz
    exact ho F2 β2 S2 H2 v u w w2 z Q r2 (rw.step s2) rw2 hz o2
  · exact o2.elim
theorem op2_coreN (ho : Op2N C.K g r) {σ : L2.St} {H : Hp} {Q : VK} (q : rdN C (dOp2 g ma mb) σ H Q) : tOp r (rdB C ma) (rdB C mb) σ H Q := by
  obtain ⟨F, β, S, ρ, hr, er, s0, o⟩ := q
  refine ⟨F, β, S, ρ, hr, er, s0, o.bind.mono fun v S1 F1 β1 H1 s1 r1 o1 w rw => ?_⟩
  refine ⟨F1, β1, S1, ρ, r1, er.step s1, s0.trans hr s1, ?_⟩
  refine o1.bind.mono fun u S2 F2 β2 H2 s2 r2 o2 w2 rw2 => ?_
  unfold lift2 at o2
  split at o2
  · rename_i z hz
    refine ho F2 β2 S2 H2 v u w w2 z Q r2 (rw.step s2) rw2 hz fun F' β' H' s' r' p h1 h2 h3 h4 => o2 F' β' H' s' r' p ?_ h2 h3 h4
    -- new behind both, so new ahead of them
    cases e : H p with
    | none => rfl
    | some ob =>
      obtain ⟨o1', e1⟩ := s1.there p ob e
      obtain ⟨o2', e2⟩ := s2.there p o1' e1
      rw [h1] at e2; cases e2
  · exact o2.elim
theorem sim_bin {op : Operator} (hx : OpR X (binaryOp op) r) (ho : Op2 C.K g r) (ha : PE X a (rdB C ma)) (hb : PE X b (rdB C mb)) : PE X (.BinOp a op b pos) (rd C (dOp2 g ma mb)) := (pe_op hx ha hb).imp fun _ _ _ => op2_core ho
theorem sim_binN {op : Operator} (hx : OpR X (binaryOp op) r) (ho : Op2N C.K g r) (ha : PE X a (rdB C ma)) (hb : PE X b (rdB C mb)) : PE X (.BinOp a op b pos) (rdN C (dOp2 g ma mb)) := (pe_op hx ha hb).imp fun _ _ _ => op2_coreN ho
theorem sim_cmp {op : CmpOp} (hx : OpR X (compareOp op) r) (ho : Op2 C.K g r) (ha : PE X a (rdB C ma)) (hb : PE X b (rdB C mb)) (hm : behindInMarks op b = false) : PE X (.Compare a [op] [b] pos) (rd C (dOp2 g ma mb)) := (pe_cmpR hx ha hb hm).imp fun _ _ _ => op2_core ho
theorem sim_ix (hx : IxR X r) (ho : Op2 C.K g r) (ha : PE X a (rdB C ma)) (hb : PE X b (rdB C mb)) (hs : PlainIx b) : PE X (.Subscript a b pos) (rd C (dOp2 g ma mb)) := (pe_ix hx ha hb hs).imp fun _ _ _ => op2_core ho
end
end Py
/-! Operators by values. -/
namespace Py
open PySem PySem.Spec L2

/-- numbers below it may be multiplied, and divided by -/
def lim : Nat := 2 ^ 8000
def okI (i : Int) : Bool := decide (i.natAbs < lim)
def sz : Nat := 16777216
theorem sz_eq : sz = sizeLine := by rw [sizeLine_eq]; rfl

/-! ### ints -/
def gI (c : Int → Int → Bool) (f : Int → Int → PV) : G2 := fun v u _ => match v, u with
  | .int i, .int j => if c i j then some (f i j) else none
  | _, _ => none
theorem RpB.int {K : PySem.W.Frag} {F H : Hp} {β : List Addr} {i : Int} {w : V} (h : RpB K F β H (.int i) w) : w = .int i := by
  rcases h with h | ⟨a, _, _, _, h⟩
  · exact h
  · exact h.elim
theorem RpB.bl {K : PySem.W.Frag} {F H : Hp} {β : List Addr} {i : Bool} {w : V} (h : RpB K F β H (.bl i) w) : w = .bl i := by
  rcases h with h | ⟨a, _, _, _, h⟩
  · exact h
  · exact h.elim
theorem RpB.str {K : PySem.W.Frag} {F H : Hp} {β : List Addr} {i : Str} {w : V} (h : RpB K F β H (.str i) w) : w = .str i := by
  rcases h with h | ⟨a, _, _, _, h⟩
  · exact h
  · exact h.elim
theorem RpB.non {K : PySem.W.Frag} {F H : Hp} {β : List Addr} {w : V} (h : RpB K F β H .non w) : w = .non := by
  rcases h with h | ⟨a, _, _, _, h⟩
  · exact h
  · exact h.elim
theorem RpB.tup {K : PySem.W.Frag} {F H : Hp} {β : List Addr} {xs : List PV} {w : V} (h : RpB K F β H (.tup xs) w) : ∃ a vs, w = .ref a ∧ SqT K F a vs ∧ vs.length ≤ sizeLine ∧ Rps K F β xs vs := by
  rcases h with h | ⟨a, _, _, _, h⟩
  · exact h
  · exact h.elim
theorem RpB.ref {K : PySem.W.Frag} {F H : Hp} {β : List Addr} {n : Nat} {w : V} (h : RpB K F β H (.ref n) w) : ∃ a, β[n]? = some a ∧ w = .ref a := by
  rcases h with h | ⟨a, _, _, _, h⟩
  · exact h
  · exact h.elim
theorem RpB.scr {K : PySem.W.Frag} {F H : Hp} {β : List Addr} {ns : List Int} {w : V} (h : RpB K F β H (.scr ns) w) : ∃ a, w = .ref a ∧ SqL K F a (ns.map V.int) ∧ ns.length ≤ sizeLine := by
  rcases h with h | ⟨a, _, _, _, h⟩
  · exact h
  · exact h.elim
/-- a list, standing still or one's own: where it stands -/
theorem RpB.lst {K : PySem.W.Frag} {F H : Hp} {β : List Addr} {xs : List PV} {w : V} (l : FLe F H) (h : RpB K F β H (.lst xs) w) : ∃ a vs, w = .ref a ∧ H a = some (.lst vs) ∧ vs.length ≤ sizeLine ∧ Rps K F β xs vs := by
  rcases h with ⟨a, vs, e, h1, h2, h3⟩ | ⟨a, e, _, _, vs, h1, h2, h3⟩
  · exact ⟨a, vs, e, l _ _ h1, h2, h3⟩
  · exact ⟨a, vs, e, h1, h2, h3⟩
section
variable {K : PySem.W.Frag}
theorem op2_I {c : Int → Int → Bool} {f : Int → Int → PV} {Cc : Int → Int → Prop} {g : Int → Int → V} (hc : ∀ i j, c i j = true → Cc i j) (hf : ∀ i j F β, Rp K F β (f i j) (g i j)) : Op2 K (gI c f) (rI Cc g) := by
  intro F β S H v u x y z Q hr hv hu e k
  unfold gI at e
  split at e
  · rename_i i j
    split at e
    · rename_i hcc
      cases e
      rw [hv.int, hu.int]
      exact ⟨i, j, rfl, rfl, hc i j hcc, k F β H (Stp.refl F β H) hr _ (hf i j F β)⟩
    · cases e
  · cases e
theorem op2_I0 {f : Int → Int → PV} {g : Int → Int → V} (hf : ∀ i j F β, Rp K F β (f i j) (g i j)) : Op2 K (gI (fun _ _ => true) f) (rI0 g) := by
  intro F β S H v u x y z Q hr hv hu e k
  unfold gI at e
  split at e
  · rename_i i j
    cases (show some (f i j) = some z from e)
    rw [hv.int, hu.int]
    exact ⟨i, j, rfl, rfl, k F β H (Stp.refl F β H) hr _ (hf i j F β)⟩
  · cases e
end
theorem okI_log {i : Int} (h : okI i = true) : i.natAbs.log2 < 8001 := by
  have h1 : i.natAbs < 2 ^ 8000 := of_decide_eq_true h
  by_cases h0 : i.natAbs = 0
  · rw [h0]; decide
  · exact Nat.lt_of_lt_of_le ((Nat.log2_lt h0).mpr h1) (by decide)
def gAddI : G2 := gI (fun _ _ => true) fun i j => .int (i + j)
def gSub : G2 := gI (fun _ _ => true) fun i j => .int (i - j)
def gMulI : G2 := gI (fun i j => okI i && okI j) fun i j => .int (i * j)
def gDiv : G2 := gI (fun _ j => decide (0 < j) && okI j) fun i j => .int (i / j)
def gMod : G2 := gI (fun _ j => decide (0 < j)) fun i j => .int (i % j)
def gPow : G2 := gI (fun i j => decide (0 ≤ j) && decide (j ≤ 1000000) && decide (i.natAbs < 2 ^ 64)) fun i j => .int (i ^ j.toNat)
def gLtI : G2 := gI (fun _ _ => true) fun i j => .bl (decide (i < j))
def gLeI : G2 := gI (fun _ _ => true) fun i j => .bl (decide (i ≤ j))
def gGtI : G2 := gI (fun _ _ => true) fun i j => .bl (decide (j < i))
def gGeI : G2 := gI (fun _ _ => true) fun i j => .bl (decide (j ≤ i))
section
variable {X : Cx} {C : CC} {a b : Expr} {ma mb : Dn} {pos : Pos}
theorem sim_sub (ha : PE X a (rdB C ma)) (hb : PE X b (rdB C mb)) : PE X (.BinOp a .Sub b pos) (rd C (dOp2 gSub ma mb)) := sim_bin op_sub (op2_I0 fun _ _ _ _ => rfl) ha hb
theorem sim_fdiv (ha : PE X a (rdB C ma)) (hb : PE X b (rdB C mb)) : PE X (.BinOp a .FloorDiv b pos) (rd C (dOp2 gDiv ma mb)) :=
  sim_bin op_fdivW (op2_I (fun i j h => by
    rw [Bool.and_eq_true] at h
    exact ⟨of_decide_eq_true h.1, Nat.lt_of_lt_of_le (okI_log h.2) (by decide)⟩) fun _ _ _ _ => rfl) ha hb
theorem sim_mod (ha : PE X a (rdB C ma)) (hb : PE X b (rdB C mb)) : PE X (.BinOp a .Mod b pos) (rd C (dOp2 gMod ma mb)) :=
  sim_bin op_mod (op2_I (fun i j h => of_decide_eq_true h) fun _ _ _ _ => rfl) ha hb
theorem sim_pow (ha : PE X a (rdB C ma)) (hb : PE X b (rdB C mb)) : PE X (.BinOp a .Pow b pos) (rd C (dOp2 gPow ma mb)) :=
  sim_bin op_pow (op2_I (fun i j h => by
    rw [Bool.and_eq_true, Bool.and_eq_true] at h
    exact ⟨of_decide_eq_true h.1.1, of_decide_eq_true h.1.2, of_decide_eq_true h.2⟩) fun _ _ _ _ => rfl) ha hb
end
theorem op2_addI {K : PySem.W.Frag} : Op2 K gAddI (rI0 fun i j => .int (i + j)) := op2_I0 fun _ _ _ _ => rfl
theorem op2_mulI {K : PySem.W.Frag} : Op2 K gMulI (rI CMulW fun i j => .int (i * j)) := op2_I (fun i j h => by
    rw [Bool.and_eq_true] at h
    have h1 := okI_log h.1
    have h2 := okI_log h.2
    unfold CMulW
    omega) fun _ _ _ _ => rfl
/-! ### a + b -/
def gAddS : G2 := fun v u _ => match v, u with
  | .str x, .str y => if x.length + y.length ≤ sz then some (.str (x ++ y)) else none
  | _, _ => none
def gAddT : G2 := fun v u _ => match v, u with
  | .tup xs, .tup ys => if xs.length + ys.length ≤ sz then some (.tup (xs ++ ys)) else none
  | _, _ => none
def gAddL : G2 := fun v u _ => match v, u with
  | .lst xs, .lst ys => if xs.length + ys.length ≤ sz then some (.lst (xs ++ ys)) else none
  | _, _ => none
section
variable {K : PySem.W.Frag}
theorem op2_addS : Op2 K gAddS (fun x y H Q => ∃ i j, x = .str i ∧ y = .str j ∧ i.length + j.length ≤ sizeLine ∧ Q (.str (i ++ j)) H) := by
  intro F β S H v u x y z Q hr hv hu e k
  unfold gAddS at e
  split at e
  · rename_i i j
    split at e
    · rename_i hcc
      cases e
      rw [hv.str, hu.str]
      exact ⟨i, j, rfl, rfl, by rw [← sz_eq]; exact hcc, k F β H (Stp.refl F β H) hr _ rfl⟩
    · cases e
  · cases e
theorem op2_addT : Op2 K gAddT (rCatA K) := by
  intro F β S H v u x y z Q hr hv hu e k
  unfold gAddT at e
  split at e
  · rename_i xs ys
    split at e
    · rename_i hcc
      cases e
      obtain ⟨a, vs, rfl, h1, z1, r1⟩ := hv.tup
      obtain ⟨b, ws, rfl, h2, z2, r2⟩ := hu.tup
      have hl : vs.length + ws.length ≤ sizeLine := by rw [← r1.length, ← r2.length, ← sz_eq]; exact hcc
      refine ⟨a, b, vs, ws, rfl, rfl, hr.le.sqT h1, hr.le.sqT h2, hl, fun q => ?_, fun _ q => ?_, fun _ _ p hp => ?_⟩
      · subst q
        have e0 : xs = [] := by have := r1.length; exact List.length_eq_zero_iff.mp this
        subst e0
        exact k F β H (Stp.refl F β H) hr _ ⟨b, ws, rfl, h2, z2, r2⟩
      · subst q
        have e0 : ys = [] := by have := r2.length; exact List.length_eq_zero_iff.mp this
        subst e0
        rw [List.append_nil] at k
        exact k F β H (Stp.refl F β H) hr _ ⟨a, vs, rfl, h1, z1, r1⟩
      · obtain ⟨n1, n2⟩ := hr.newF (o := .tup (vs ++ ws)) hp
        exact k _ β _ n2 n1 _ ⟨p, vs ++ ws, rfl, SqT.of upd_same, by rw [List.length_append]; exact hl, Rps.mono n2.mono n2.pre _ _ (r1.append r2)⟩
    · cases e
  · cases e
theorem op2_addL : Op2N K gAddL rCat := by
  intro F β S H v u x y z Q hr hv hu e k
  unfold gAddL at e
  split at e
  · rename_i xs ys
    split at e
    · rename_i hcc
      cases e
      obtain ⟨a, vs, rfl, h1, z1, r1⟩ := hv.lst hr.le
      obtain ⟨b, ws, rfl, h2, z2, r2⟩ := hu.lst hr.le
      have hl : vs.length + ws.length ≤ sizeLine := by rw [← r1.length, ← r2.length, ← sz_eq]; exact hcc
      refine ⟨a, b, vs, ws, rfl, rfl, h1, h2, hl, fun p hp => ?_⟩
      obtain ⟨n1, n2⟩ := hr.newO (o := .lst (vs ++ ws)) hp
      exact k F β _ n2 n1 p hp (hr.fnone hp) (hr.notIn hp) ⟨vs ++ ws, upd_same, by rw [List.length_append]; exact hl, r1.append r2⟩
    · cases e
  · cases e
/-- a new list stands still: by values -/
theorem Op2N.frz {g : G2} {r : R2} (h : Op2N K g r) : Op2 K g r := by
  intro F β S H v u x y z Q hr hv hu e k
  refine h F β S H v u x y z Q hr hv hu e fun F' β' H' s r' a h1 h2 h3 h4 => ?_
  cases z with
  | lst xs =>
    obtain ⟨vs, e1, hz, rp⟩ := h4
    refine k (upd F' a (.lst vs)) β' H' ⟨s.mono.trans (FLe.upd h2), s.pre, s.keep, fun b u e2 e3 e4 => ?_, s.there⟩ (r'.freeze e1 h2 h3) (.ref a) ⟨a, vs, rfl, upd_same, hz, Rps.mono (FLe.upd h2) (List.prefix_refl _) _ _ rp⟩
    obtain ⟨q1, q2⟩ := s.sep b u e2 e3 e4
    refine ⟨?_, q2⟩
    rw [upd_ne (ne_of_none e2 h1)]; exact q1
  | _ => exact h4.elim
end
def gAdd : G2 := fun v u S => (gAddI v u S).or ((gAddS v u S).or ((gAddT v u S).or (gAddL v u S)))
section
variable {X : Cx} {C : CC} {a b : Expr} {ma mb : Dn} {pos : Pos}
theorem sim_add (hK : C.K = X.K) (ha : PE X a (rdB C ma)) (hb : PE X b (rdB C mb)) : PE X (.BinOp a .Add b pos) (rd C (dOp2 gAdd ma mb)) :=
  sim_bin (op_add.or (op_add_str.or ((hK ▸ op_catA : OpR X (binaryOp .Add) (rCatA C.K)).or op_cat))) (op2_addI.or (op2_addS.or (op2_addT.or op2_addL.frz))) ha hb
theorem sim_addN (ha : PE X a (rdB C ma)) (hb : PE X b (rdB C mb)) : PE X (.BinOp a .Add b pos) (rdN C (dOp2 gAddL ma mb)) := sim_binN op_cat op2_addL ha hb
end
/-! ### a * b -/
def gRepL : G2 := fun v u _ => match v, u with
  | .lst xs, .int k => if decide (-(2 ^ 63) ≤ k) && decide (k < 2 ^ 63) && decide (xs.length * k.toNat ≤ sz) then some (.lst (List.replicate k.toNat xs).flatten) else none
  | _, _ => none
theorem Rps.rep {K : PySem.W.Frag} {F : Hp} {β : List Addr} {xs : List PV} {vs : List V} (h : Rps K F β xs vs) : ∀ n : Nat, Rps K F β (List.replicate n xs).flatten (List.replicate n vs).flatten
  | 0 => rfl
  | n + 1 => by
    rw [List.replicate_succ, List.replicate_succ, List.flatten_cons, List.flatten_cons]
    exact h.append (Rps.rep h n)
theorem op2_repL {K : PySem.W.Frag} : Op2N K gRepL rRep := by
  intro F β S H v u x y z Q hr hv hu e k
  unfold gRepL at e
  split at e
  · rename_i xs n
    split at e
    · rename_i hcc
      cases e
      rw [Bool.and_eq_true, Bool.and_eq_true] at hcc
      obtain ⟨⟨c1, c2⟩, c3⟩ := hcc
      obtain ⟨a, vs, rfl, h1, z1, r1⟩ := hv.lst hr.le
      rw [hu.int]
      have hl : vs.length * n.toNat ≤ sizeLine := by rw [← r1.length, ← sz_eq]; exact of_decide_eq_true c3
      refine ⟨a, n, vs, rfl, rfl, h1, of_decide_eq_true c1, of_decide_eq_true c2, hl, fun p hp => ?_⟩
      obtain ⟨n1, n2⟩ := hr.newO (o := .lst (List.replicate n.toNat vs).flatten) hp
      refine k F β _ n2 n1 p hp (hr.fnone hp) (hr.notIn hp) ⟨_, upd_same, ?_, r1.rep n.toNat⟩
      rw [List.length_flatten, List.map_replicate, List.sum_replicate_nat, Nat.mul_comm]
      exact hl
    · cases e
  · cases e
def gMulJ : G2 := fun v u S => (gMulI v u S).or (gRepL v u S)
section
variable {X : Cx} {C : CC} {a b : Expr} {ma mb : Dn} {pos : Pos}
theorem sim_mulJ (ha : PE X a (rdB C ma)) (hb : PE X b (rdB C mb)) : PE X (.BinOp a .Mult b pos) (rd C (dOp2 gMulJ ma mb)) :=
  sim_bin (op_mulW.or op_rep) (op2_mulI.or op2_repL.frz) ha hb
theorem sim_mulN (ha : PE X a (rdB C ma)) (hb : PE X b (rdB C mb)) : PE X (.BinOp a .Mult b pos) (rdN C (dOp2 gRepL ma mb)) := sim_binN op_rep op2_repL ha hb
end
end Py
/-! == , in, order, items, slices. -/
namespace Py
open PySem PySem.Spec L2

/-! ### values as plain data -/
mutual
def toD : PV → PyData
  | .non => .none
  | .bl b => .bool b
  | .int i => .int i
  | .str x => .str x
  | .tup xs => .tuple (toDs xs)
  | .lst xs => .list (toDs xs)
  | .ref _ => .dict []
  | .scr _ => .dict []
def toDs : List PV → List PyData
  | [] => []
  | x :: xs => toD x :: toDs xs
end
mutual
/-- data that may be compared -/
def shp : PV → Bool
  | .non => true
  | .bl _ => true
  | .int _ => true
  | .str x => PySem.PyData.canLay0 (.str x)
  | .tup xs => shps xs
  | .lst xs => shps xs
  | .ref _ => false
  | .scr _ => false
def shps : List PV → Bool
  | [] => true
  | x :: xs => shp x && shps xs
end
mutual
def dep : PV → Nat
  | .tup xs => deps xs + 1
  | .lst xs => deps xs + 1
  | .non => 0 | .bl _ => 0 | .int _ => 0 | .str _ => 0 | .ref _ => 0 | .scr _ => 0
def deps : List PV → Nat
  | [] => 0
  | x :: xs => max (dep x) (deps xs)
end
mutual
def peqv : PV → PV → Bool
  | .non, .non => true
  | .bl a, .bl b => a == b
  | .bl a, .int j => (if a then 1 else 0) == j
  | .int i, .bl b => i == (if b then 1 else 0)
  | .int i, .int j => decide (i = j)
  | .str x, .str y => decide (x = y)
  | .tup xs, .tup ys => peqvs xs ys
  | .lst xs, .lst ys => peqvs xs ys
  | _, _ => false
def peqvs : List PV → List PV → Bool
  | [], [] => true
  | x :: xs, y :: ys => peqv x y && peqvs xs ys
  | _, _ => false
end
mutual
theorem shp_lay : ∀ v : PV, shp v = true → (toD v).canLay0 = true
  | .non, _ => rfl
  | .bl _, _ => rfl
  | .int _, _ => rfl
  | .str x, h => h
  | .tup xs, h => by
    have := shps_lay xs h
    simpa [toD, PyData.canLay0] using this
  | .lst xs, h => by
    have := shps_lay xs h
    simpa [toD, PyData.canLay0] using this
  | .ref _, h => by simp [shp] at h
  | .scr _, h => by simp [shp] at h
theorem shps_lay : ∀ v : List PV, shps v = true → PyData.canLayAll0 (toDs v) = true
  | [], _ => rfl
  | x :: xs, h => by
    simp only [shps, Bool.and_eq_true] at h
    simp only [toDs, PyData.canLayAll0, shp_lay x h.1, shps_lay xs h.2, Bool.and_self]
end
mutual
theorem dep_toD : ∀ v : PV, shp v = true → (toD v).depth = dep v
  | .non, _ => rfl
  | .bl _, _ => rfl
  | .int _, _ => rfl
  | .str x, h => rfl
  | .tup xs, h => by simp only [toD, PyData.depth, dep, deps_toD xs h]
  | .lst xs, h => by simp only [toD, PyData.depth, dep, deps_toD xs h]
  | .ref _, h => by simp [shp] at h
  | .scr _, h => by simp [shp] at h
theorem deps_toD : ∀ v : List PV, shps v = true → PyData.depthAll (toDs v) = deps v
  | [], _ => rfl
  | x :: xs, h => by
    simp only [shps, Bool.and_eq_true] at h
    simp only [toDs, PyData.depthAll, deps, dep_toD x h.1, deps_toD xs h.2]
end
theorem shaped_of {v : PV} (h : shp v = true) (d : dep v ≤ 64) : SeqAt.shaped (toD v) = true := by
  unfold SeqAt.shaped
  rw [shp_lay v h, dep_toD v h]
  simpa using d
mutual
theorem peqv_toD : ∀ v u : PV, shp v = true → shp u = true → PyData.eqv (toD v) (toD u) = peqv v u
  | .tup xs, .tup ys, h, h' => by simp only [toD, PyData.eqv, peqv, peqvs_toD xs ys h h']
  | .lst xs, .lst ys, h, h' => by simp only [toD, PyData.eqv, peqv, peqvs_toD xs ys h h']
  | .int i, .int j, _, _ => by simp [toD, PyData.eqv, peqv, Bool.beq_eq_decide_eq]
  | .str i, .str j, _, _ => by simp [toD, PyData.eqv, peqv, Bool.beq_eq_decide_eq]
  | .non, u, _, h' => by cases u <;> first | rfl | (simp [shp] at h')
  | .bl b, u, _, h' => by cases u <;> first | rfl | (simp [shp] at h')
  | .ref _, _, h, _ => by simp [shp] at h
  | .scr _, _, h, _ => by simp [shp] at h
  | .int _, .non, _, _ => rfl
  | .int _, .bl _, _, _ => rfl
  | .int _, .str _, _, _ => rfl
  | .int _, .tup _, _, _ => rfl
  | .int _, .lst _, _, _ => rfl
  | .int _, .ref _, _, h => by simp [shp] at h
  | .int _, .scr _, _, h => by simp [shp] at h
  | .str _, .non, _, _ => rfl
  | .str _, .bl _, _, _ => rfl
  | .str _, .int _, _, _ => rfl
  | .str _, .tup _, _, _ => rfl
  | .str _, .lst _, _, _ => rfl
  | .str _, .ref _, _, h => by simp [shp] at h
  | .str _, .scr _, _, h => by simp [shp] at h
  | .tup _, .non, _, _ => rfl
  | .tup _, .bl _, _, _ => rfl
  | .tup _, .int _, _, _ => rfl
  | .tup _, .str _, _, _ => rfl
  | .tup _, .lst _, _, _ => rfl
  | .tup _, .ref _, _, h => by simp [shp] at h
  | .tup _, .scr _, _, h => by simp [shp] at h
  | .lst _, .non, _, _ => rfl
  | .lst _, .bl _, _, _ => rfl
  | .lst _, .int _, _, _ => rfl
  | .lst _, .str _, _, _ => rfl
  | .lst _, .tup _, _, _ => rfl
  | .lst _, .ref _, _, h => by simp [shp] at h
  | .lst _, .scr _, _, h => by simp [shp] at h
theorem peqvs_toD : ∀ v u : List PV, shps v = true → shps u = true → PyData.eqvAll (toDs v) (toDs u) = peqvs v u
  | [], [], _, _ => rfl
  | [], _ :: _, _, _ => rfl
  | _ :: _, [], _, _ => rfl
  | x :: xs, y :: ys, h, h' => by
    simp only [shps, Bool.and_eq_true] at h h'
    simp only [toDs, PyData.eqvAll, peqvs, peqv_toD x y h.1 h'.1, peqvs_toD xs ys h.2 h'.2]
end
section
variable {K : PySem.W.Frag} {F H : Hp} {β : List Addr}
mutual
theorem Rp.dp (l : FLe F H) : ∀ (v : PV) (w : V), shp v = true → Rp K F β v w → Dp K H w (toD v)
  | .non, _, _, h => by cases h; exact .non
  | .bl b, _, _, h => by cases h; exact .bl b
  | .int i, _, _, h => by cases h; exact .int i
  | .str x, _, _, h => by cases h; exact .str x
  | .tup xs, _, s, h => by
    obtain ⟨a, vs, rfl, h1, _, h2⟩ := h
    exact .tup (l.sqT h1) (Rps.dp l xs vs s h2)
  | .lst xs, _, s, h => by
    obtain ⟨a, vs, rfl, h1, _, h2⟩ := h
    exact .lst (SqL.of (l _ _ h1)) (Rps.dp l xs vs s h2)
  | .ref _, _, s, _ => by simp [shp] at s
  | .scr _, _, s, _ => by simp [shp] at s
theorem Rps.dp (l : FLe F H) : ∀ (xs : List PV) (vs : List V), shps xs = true → Rps K F β xs vs → DpAll K H vs (toDs xs)
  | [], _, _, h => by cases h; exact .nil
  | x :: xs, _, s, h => by
    obtain ⟨v, r, rfl, h1, h2⟩ := h
    simp only [shps, Bool.and_eq_true] at s
    exact .cons (Rp.dp l x v s.1 h1) (Rps.dp l xs r s.2 h2)
end
theorem RpB.dp (l : FLe F H) {v : PV} {w : V} (s : shp v = true) (h : RpB K F β H v w) : Dp K H w (toD v) := by
  rcases h with h | ⟨a, rfl, _, _, h⟩
  · exact h.dp l v w s
  · cases v with
    | lst xs =>
      obtain ⟨vs, h1, _, h2⟩ := h
      exact .lst (SqL.of h1) (Rps.dp l xs vs s h2)
    | _ => exact h.elim
end
/-- a == b -/
def pEq (v u : PV) : Option Bool := match v, u with
  | .int i, .int j => some (decide (i = j))
  | .str x, .str y => some (decide (x = y))
  | .bl x, .bl y => some (decide (x = y))
  | _, _ => if shp v && decide (dep v ≤ 64) && (shp u && decide (dep u ≤ 64)) then some (peqv v u) else none
def gEq : G2 := fun v u _ => (pEq v u).map .bl
def gNe : G2 := fun v u _ => (pEq v u).map fun b => .bl (!b)
section
variable {K : PySem.W.Frag}
theorem eq_core {F H : Hp} {β : List Addr} {S : Store} {v u : PV} {x y : V} {b : Bool} (hr : HRel K F β S H) (hv : RpB K F β H v x) (hu : RpB K F β H u y) (e : pEq v u = some b) :
    (scal x y = true ∧ decide (x = y) = b) ∨ ∃ d d', Dp K H x d ∧ Dp K H y d' ∧ SeqAt.shaped d = true ∧ SeqAt.shaped d' = true ∧ PyData.eqv d d' = b := by
  unfold pEq at e
  split at e
  · cases e; rw [hv.int, hu.int]; exact .inl ⟨rfl, by simp⟩
  · cases e; rw [hv.str, hu.str]; exact .inl ⟨rfl, by simp⟩
  · cases e; rw [hv.bl, hu.bl]; exact .inl ⟨rfl, by simp⟩
  · split at e
    · rename_i c
      rw [Bool.and_eq_true, Bool.and_eq_true, Bool.and_eq_true] at c
      obtain ⟨⟨c1, c2⟩, c3, c4⟩ := c
      cases e
      exact .inr ⟨_, _, hv.dp hr.le c1, hu.dp hr.le c3, shaped_of c1 (of_decide_eq_true c2), shaped_of c3 (of_decide_eq_true c4), peqv_toD _ _ c1 c3⟩
    · cases e
theorem op2_eq : Op2 K gEq (fun x y H Q => rEq x y H Q ∨ rEqD K x y H Q) := by
  intro F β S H v u x y z Q hr hv hu e k
  obtain ⟨b, hb, rfl⟩ : ∃ b, pEq v u = some b ∧ .bl b = z := by
    have e : (pEq v u).map PV.bl = some z := e
    cases q : pEq v u with
    | none => rw [q] at e; cases e
    | some b => rw [q] at e; exact ⟨b, rfl, Option.some.inj e⟩
  have fin := k F β H (Stp.refl F β H) hr (.bl b) rfl
  rcases eq_core hr hv hu hb with ⟨h1, h2⟩ | ⟨d, d', h1, h2, h3, h4, h5⟩
  · exact .inl ⟨h1, by rw [h2]; exact fin⟩
  · exact .inr ⟨d, d', h1, h2, h3, h4, by rw [h5]; exact fin⟩
theorem op2_ne : Op2 K gNe (fun x y H Q => rNe x y H Q ∨ rNeD K x y H Q) := by
  intro F β S H v u x y z Q hr hv hu e k
  obtain ⟨b, hb, rfl⟩ : ∃ b, pEq v u = some b ∧ .bl (!b) = z := by
    have e : (pEq v u).map (fun b => PV.bl (!b)) = some z := e
    cases q : pEq v u with
    | none => rw [q] at e; cases e
    | some b => rw [q] at e; exact ⟨b, rfl, Option.some.inj e⟩
  have fin := k F β H (Stp.refl F β H) hr (.bl (!b)) rfl
  rcases eq_core hr hv hu hb with ⟨h1, h2⟩ | ⟨d, d', h1, h2, h3, h4, h5⟩
  · exact .inl ⟨h1, by rw [h2]; exact fin⟩
  · exact .inr ⟨d, d', h1, h2, h3, h4, by rw [h5]; exact fin⟩
end
/-! ### in -/
def anyEq (v : PV) (us : List PV) : Option Bool :=
  if shp v && decide (dep v ≤ 64) && shps us then some (us.any fun z => peqv z v) else none
def pIn (v u : PV) : Option Bool := match u with
  | .lst us => anyEq v us
  | .tup us => anyEq v us
  | .str y => match v with
    | .str x => some (!(Builtin.Str.occurrences y x 0 y.length 1).isEmpty)
    | _ => none
  | _ => none
def gIn : G2 := fun v u _ => (pIn v u).map .bl
def gNotIn : G2 := fun v u _ => (pIn v u).map fun b => .bl (!b)
theorem toDs_any (v : PV) (hv : shp v = true) : ∀ us : List PV, shps us = true → ((toDs us).any fun z => PyData.eqv z (toD v)) = us.any fun z => peqv z v
  | [], _ => rfl
  | u :: us, h => by
    simp only [shps, Bool.and_eq_true] at h
    simp only [toDs, List.any_cons, peqv_toD u v h.1 hv, toDs_any v hv us h.2]
/-- x in y, y a list or a tuple of data -/
def rInA (K : PySem.W.Frag) (neg : Bool) : R2 := fun x y H Q => ∃ d ds, Dp K H x d ∧ (Dp K H y (.list ds) ∨ Dp K H y (.tuple ds)) ∧ SeqAt.shaped d = true ∧ PyData.canLayAll0 ds = true ∧ Q (.bl (if neg then !(ds.any fun z => PyData.eqv z d) else ds.any fun z => PyData.eqv z d)) H
section
variable {X : Cx} {K : PySem.W.Frag}
theorem op_inA (hu : X.A.units + 65 < cLine) : OpR X (compareOp .In) (rInA X.K false) := by
  intro pins s σ H x y v u Q I rx ry h
  obtain ⟨d, ds, hd, he, sd, se, q⟩ := h
  obtain ⟨as, r1⟩ := Dp.reads I d x v hd rx
  have hr : X.A.units + 1 + min (PyData.depthAll ds) d.depth < cLine := by
    have h1 := SeqAt.depth_of_shaped sd
    have h2 := Nat.min_le_right (PyData.depthAll ds) d.depth
    omega
  rcases he with he | he
  · obtain ⟨bs, r2⟩ := Dp.reads I (.list ds) y u he ry
    exact SeqAt.in_list_reads r2 r1 se (SeqAt.canLay_of_shaped sd) hr ⟨.bl _, H, I, rfl, q⟩
  · obtain ⟨bs, r2⟩ := Dp.reads I (.tuple ds) y u he ry
    exact SeqAt.in_tuple_reads r2 r1 se (SeqAt.canLay_of_shaped sd) hr ⟨.bl _, H, I, rfl, q⟩
theorem op_notInA (hu : X.A.units + 65 < cLine) : OpR X (compareOp .NotIn) (rInA X.K true) := by
  intro pins s σ H x y v u Q I rx ry h
  obtain ⟨d, ds, hd, he, sd, se, q⟩ := h
  obtain ⟨as, r1⟩ := Dp.reads I d x v hd rx
  have hr : X.A.units + 1 + min (PyData.depthAll ds) d.depth < cLine := by
    have h1 := SeqAt.depth_of_shaped sd
    have h2 := Nat.min_le_right (PyData.depthAll ds) d.depth
    omega
  rcases he with he | he
  · obtain ⟨bs, r2⟩ := Dp.reads I (.list ds) y u he ry
    exact SeqAt.notIn_list_reads r2 r1 se (SeqAt.canLay_of_shaped sd) hr ⟨.bl _, H, I, rfl, q⟩
  · obtain ⟨bs, r2⟩ := Dp.reads I (.tuple ds) y u he ry
    exact SeqAt.notIn_tuple_reads r2 r1 se (SeqAt.canLay_of_shaped sd) hr ⟨.bl _, H, I, rfl, q⟩
theorem in_core {F H : Hp} {β : List Addr} {S : Store} {v u : PV} {x y : V} {b : Bool} (hr : HRel K F β S H) (hv : RpB K F β H v x) (hu : RpB K F β H u y) (e : pIn v u = some b) :
    (∃ i j, x = .str i ∧ y = .str j ∧ (!(Builtin.Str.occurrences j i 0 j.length 1).isEmpty) = b) ∨
    ∃ d ds, Dp K H x d ∧ (Dp K H y (.list ds) ∨ Dp K H y (.tuple ds)) ∧ SeqAt.shaped d = true ∧ PyData.canLayAll0 ds = true ∧ (ds.any fun z => PyData.eqv z d) = b := by
  have seq : ∀ us, anyEq v us = some b → shp v = true ∧ dep v ≤ 64 ∧ shps us = true ∧ (us.any fun z => peqv z v) = b := fun us e => by
    unfold anyEq at e
    split at e
    · rename_i c
      rw [Bool.and_eq_true, Bool.and_eq_true] at c
      cases e
      exact ⟨c.1.1, of_decide_eq_true c.1.2, c.2, rfl⟩
    · cases e
  unfold pIn at e
  split at e
  · rename_i us
    obtain ⟨c1, c2, c3, c4⟩ := seq us e
    exact .inr ⟨_, _, hv.dp hr.le c1, .inl (hu.dp (v := .lst us) hr.le c3), shaped_of c1 c2, shps_lay _ c3, by rw [toDs_any v c1 us c3]; exact c4⟩
  · rename_i us
    obtain ⟨c1, c2, c3, c4⟩ := seq us e
    exact .inr ⟨_, _, hv.dp hr.le c1, .inr (hu.dp (v := .tup us) hr.le c3), shaped_of c1 c2, shps_lay _ c3, by rw [toDs_any v c1 us c3]; exact c4⟩
  · split at e
    · cases e
      rw [hv.str, hu.str]
      exact .inl ⟨_, _, rfl, rfl, rfl⟩
    · cases e
  · cases e
theorem op2_in : Op2 K gIn (fun x y H Q => (∃ i j, x = .str i ∧ y = .str j ∧ Q (.bl (!(Builtin.Str.occurrences j i 0 j.length 1).isEmpty)) H) ∨ rInA K false x y H Q) := by
  intro F β S H v u x y z Q hr hv hu e k
  obtain ⟨b, hb, rfl⟩ : ∃ b, pIn v u = some b ∧ .bl b = z := by
    have e : (pIn v u).map PV.bl = some z := e
    cases q : pIn v u with
    | none => rw [q] at e; cases e
    | some b => rw [q] at e; exact ⟨b, rfl, Option.some.inj e⟩
  have fin := k F β H (Stp.refl F β H) hr (.bl b) rfl
  rcases in_core hr hv hu hb with ⟨i, j, h1, h2, h3⟩ | ⟨d, ds, h1, h2, h3, h4, h5⟩
  · exact .inl ⟨i, j, h1, h2, by rw [h3]; exact fin⟩
  · exact .inr ⟨d, ds, h1, h2, h3, h4, by rw [if_neg Bool.false_ne_true, h5]; exact fin⟩
theorem op2_notIn : Op2 K gNotIn (fun x y H Q => (∃ i j, x = .str i ∧ y = .str j ∧ Q (.bl (!(!(Builtin.Str.occurrences j i 0 j.length 1).isEmpty))) H) ∨ rInA K true x y H Q) := by
  intro F β S H v u x y z Q hr hv hu e k
  obtain ⟨b, hb, rfl⟩ : ∃ b, pIn v u = some b ∧ .bl (!b) = z := by
    have e : (pIn v u).map (fun b => PV.bl (!b)) = some z := e
    cases q : pIn v u with
    | none => rw [q] at e; cases e
    | some b => rw [q] at e; exact ⟨b, rfl, Option.some.inj e⟩
  have fin := k F β H (Stp.refl F β H) hr (.bl (!b)) rfl
  rcases in_core hr hv hu hb with ⟨i, j, h1, h2, h3⟩ | ⟨d, ds, h1, h2, h3, h4, h5⟩
  · exact .inl ⟨i, j, h1, h2, by rw [h3]; exact fin⟩
  · exact .inr ⟨d, ds, h1, h2, h3, h4, by rw [if_pos rfl, h5]; exact fin⟩
end
/-! ### the readings -/
section
variable {X : Cx} {C : CC} {a b : Expr} {ma mb : Dn} {pos : Pos}
theorem sim_eq (hK : C.K = X.K) (hu : X.A.units + 65 < cLine) (ha : PE X a (rdB C ma)) (hb : PE X b (rdB C mb)) : PE X (.Compare a [.Eq] [b] pos) (rd C (dOp2 gEq ma mb)) :=
  sim_cmp (op_eq.or (hK ▸ op_eqD (by omega) : OpR X (compareOp .Eq) (rEqD C.K))) op2_eq ha hb (nomark _)
theorem sim_ne (hK : C.K = X.K) (hu : X.A.units + 65 < cLine) (ha : PE X a (rdB C ma)) (hb : PE X b (rdB C mb)) : PE X (.Compare a [.NotEq] [b] pos) (rd C (dOp2 gNe ma mb)) :=
  sim_cmp (op_ne.or (hK ▸ op_neD (by omega) : OpR X (compareOp .NotEq) (rNeD C.K))) op2_ne ha hb (nomark _)
theorem sim_in (hK : C.K = X.K) (hu : X.A.units + 65 < cLine) (ha : PE X a (rdB C ma)) (hb : PE X b (rdB C mb)) (hm : behindInMarks .In b = false) : PE X (.Compare a [.In] [b] pos) (rd C (dOp2 gIn ma mb)) :=
  sim_cmp (op_in_str.or (hK ▸ op_inA hu : OpR X (compareOp .In) (rInA C.K false))) op2_in ha hb hm
theorem sim_notIn (hK : C.K = X.K) (hu : X.A.units + 65 < cLine) (ha : PE X a (rdB C ma)) (hb : PE X b (rdB C mb)) (hm : behindInMarks .NotIn b = false) : PE X (.Compare a [.NotIn] [b] pos) (rd C (dOp2 gNotIn ma mb)) :=
  sim_cmp (op_notin_str.or (hK ▸ op_notInA hu : OpR X (compareOp .NotIn) (rInA C.K true))) op2_notIn ha hb hm
theorem sim_lt (ha : PE X a (rdB C ma)) (hb : PE X b (rdB C mb)) : PE X (.Compare a [.Lt] [b] pos) (rd C (dOp2 gLtI ma mb)) := sim_cmp op_lt (op2_I0 fun _ _ _ _ => rfl) ha hb (nomark _)
theorem sim_le (ha : PE X a (rdB C ma)) (hb : PE X b (rdB C mb)) : PE X (.Compare a [.LtE] [b] pos) (rd C (dOp2 gLeI ma mb)) := sim_cmp op_le (op2_I0 fun _ _ _ _ => rfl) ha hb (nomark _)
theorem sim_gt (ha : PE X a (rdB C ma)) (hb : PE X b (rdB C mb)) : PE X (.Compare a [.Gt] [b] pos) (rd C (dOp2 gGtI ma mb)) := sim_cmp op_gt (op2_I0 fun _ _ _ _ => rfl) ha hb (nomark _)
theorem sim_ge (ha : PE X a (rdB C ma)) (hb : PE X b (rdB C mb)) : PE X (.Compare a [.GtE] [b] pos) (rd C (dOp2 gGeI ma mb)) := sim_cmp op_ge (op2_I0 fun _ _ _ _ => rfl) ha hb (nomark _)
end
/-! ### is None -/
def isNon : PV → Bool
  | .non => true
  | _ => false
def gIsN : G2 := fun v u _ => match u with
  | .non => some (.bl (isNon v))
  | _ => none
def gNotN : G2 := fun v u _ => match u with
  | .non => some (.bl (!isNon v))
  | _ => none
theorem isNon_rp {K : PySem.W.Frag} {F H : Hp} {β : List Addr} {v : PV} {w : V} (h : RpB K F β H v w) : decide (w = .non) = isNon v := by
  rcases h with h | ⟨a, rfl, _, _, h⟩
  · cases v with
    | non => cases h; rfl
    | bl _ => cases h; rfl
    | int _ => cases h; rfl
    | str _ => cases h; rfl
    | tup _ => obtain ⟨a, vs, rfl, _⟩ := h; rfl
    | lst _ => obtain ⟨a, vs, rfl, _⟩ := h; rfl
    | ref _ => obtain ⟨a, _, rfl⟩ := h; rfl
    | scr _ => obtain ⟨a, rfl, _⟩ := h; rfl
  · cases v with
    | lst _ => rfl
    | _ => exact h.elim
section
variable {X : Cx} {C : CC} {a b : Expr} {ma mb : Dn} {pos : Pos}
theorem sim_isN (ha : PE X a (rdB C ma)) (hb : PE X b (rdB C mb)) : PE X (.Compare a [.Is] [b] pos) (rd C (dOp2 gIsN ma mb)) :=
  sim_cmp op_isN (by
    intro F β S H v u x y z Q hr hv hu e k
    unfold gIsN at e
    split at e
    · cases e
      rw [hu.non]
      exact ⟨rfl, by rw [isNon_rp hv]; exact k F β H (Stp.refl F β H) hr _ rfl⟩
    · cases e) ha hb (nomark _)
theorem sim_notN (ha : PE X a (rdB C ma)) (hb : PE X b (rdB C mb)) : PE X (.Compare a [.IsNot] [b] pos) (rd C (dOp2 gNotN ma mb)) :=
  sim_cmp op_notN (by
    intro F β S H v u x y z Q hr hv hu e k
    unfold gNotN at e
    split at e
    · cases e
      rw [hu.non]
      exact ⟨rfl, by rw [isNon_rp hv]; exact k F β H (Stp.refl F β H) hr _ rfl⟩
    · cases e) ha hb (nomark _)
end
/-! ### items -/
def gIx : G2 := fun v u S => match u with
  | .int i => match v with
    | .tup xs => atI xs i
    | .lst xs => atI xs i
    | .str z => if z.length ≤ sz then (atI z.cps.toList i).map fun c => .str ⟨#[c]⟩ else none
    | .ref n => match S[n]? with
      | some (.lst xs) => atI xs i
      | none => none
    | _ => none
  | _ => none
theorem Rps.atI {K : PySem.W.Frag} {F : Hp} {β : List Addr} {xs : List PV} {vs : List V} {i : Int} {z : PV} (h : Rps K F β xs vs) (e : L2.atI xs i = some z) : ∃ w, L2.atI vs i = some w ∧ Rp K F β z w := by
  unfold L2.atI at e ⊢
  rw [← h.length]
  cases q : ixN xs.length i with
  | none => rw [q] at e; cases e
  | some j =>
    rw [q] at e
    exact h.get (show xs[j]? = some z from e)
theorem op2_ix {K : PySem.W.Frag} : Op2 K gIx (rIx K) := by
  intro F β S H v u x y z Q hr hv hu e k
  have go : ∀ w, Rp K F β z w → Q w H := k F β H (Stp.refl F β H) hr
  unfold gIx at e
  split at e
  · rename_i i
    rw [hu.int]
    split at e
    · rename_i xs
      obtain ⟨a, vs, rfl, h1, _, r1⟩ := hv.tup
      obtain ⟨w, h2, h3⟩ := r1.atI e
      exact .inr (.inl ⟨a, vs, i, w, rfl, rfl, hr.le.sqT h1, h2, go w h3⟩)
    · rename_i xs
      obtain ⟨a, vs, rfl, h1, _, r1⟩ := hv.lst hr.le
      obtain ⟨w, h2, h3⟩ := r1.atI e
      exact .inl ⟨a, vs, i, w, rfl, rfl, SqL.of h1, h2, go w h3⟩
    · rename_i zz
      split at e
      · rename_i hz
        rw [hv.str]
        cases q : L2.atI zz.cps.toList i with
        | none => rw [q] at e; cases e
        | some c =>
          rw [q] at e
          cases e
          exact .inr (.inr ⟨zz, i, c, rfl, rfl, by rw [← sz_eq]; exact hz, q, go _ rfl⟩)
      · cases e
    · rename_i n
      obtain ⟨a, ha, rfl⟩ := hv.ref
      split at e
      · rename_i xs hs
        obtain ⟨vs, h1, _, r1⟩ := hr.box n _ a hs ha
        obtain ⟨w, h2, h3⟩ := r1.atI e
        exact .inl ⟨a, vs, i, w, rfl, rfl, SqL.of h1, h2, go w h3⟩
      · cases e
    · cases e
  · cases e
theorem sim_item {X : Cx} {C : CC} {a b : Expr} {ma mb : Dn} {pos : Pos} (hK : C.K = X.K) (ha : PE X a (rdB C ma)) (hb : PE X b (rdB C mb)) (hs : PlainIx b) : PE X (.Subscript a b pos) (rd C (dOp2 gIx ma mb)) :=
  sim_ix (hK ▸ ix_seq : IxR X (rIx C.K)) op2_ix ha hb hs
end Py
/-! Tests, and or not, displays, slices, built-in calls. -/
namespace Py
open PySem PySem.Spec L2

/-- a comparison's rule -/
def CmpOk (X : Cx) (C : CC) (op : CmpOp) (g : G2) : Prop := ∃ r : R2, OpR X (compareOp op) r ∧ Op2 C.K g r
section
variable {X : Cx} {C : CC} {a b : Expr} {ma mb : Dn} {g : G2} {pos : Pos} {op : CmpOp}
theorem cmp_eq (hK : C.K = X.K) (hu : X.A.units + 65 < cLine) : CmpOk X C .Eq gEq := ⟨_, op_eq.or (hK ▸ op_eqD (by omega) : OpR X (compareOp .Eq) (rEqD C.K)), op2_eq⟩
theorem cmp_ne (hK : C.K = X.K) (hu : X.A.units + 65 < cLine) : CmpOk X C .NotEq gNe := ⟨_, op_ne.or (hK ▸ op_neD (by omega) : OpR X (compareOp .NotEq) (rNeD C.K)), op2_ne⟩
theorem cmp_in (hK : C.K = X.K) (hu : X.A.units + 65 < cLine) : CmpOk X C .In gIn := ⟨_, op_in_str.or (hK ▸ op_inA hu : OpR X (compareOp .In) (rInA C.K false)), op2_in⟩
theorem cmp_notIn (hK : C.K = X.K) (hu : X.A.units + 65 < cLine) : CmpOk X C .NotIn gNotIn := ⟨_, op_notin_str.or (hK ▸ op_notInA hu : OpR X (compareOp .NotIn) (rInA C.K true)), op2_notIn⟩
theorem cmp_ltI : CmpOk X C .Lt gLtI := ⟨_, op_lt, op2_I0 fun _ _ _ _ => rfl⟩
theorem cmp_leI : CmpOk X C .LtE gLeI := ⟨_, op_le, op2_I0 fun _ _ _ _ => rfl⟩
theorem cmp_gtI : CmpOk X C .Gt gGtI := ⟨_, op_gt, op2_I0 fun _ _ _ _ => rfl⟩
theorem cmp_geI : CmpOk X C .GtE gGeI := ⟨_, op_ge, op2_I0 fun _ _ _ _ => rfl⟩
theorem op2_isN {K : PySem.W.Frag} : Op2 K gIsN (fun x y H Q => y = .non ∧ Q (.bl (decide (x = .non))) H) := by
  intro F β S H v u x y z Q hr hv hu e k
  unfold gIsN at e
  split at e
  · cases e
    rw [hu.non]
    exact ⟨rfl, by rw [isNon_rp hv]; exact k F β H (Stp.refl F β H) hr _ rfl⟩
  · cases e
theorem op2_notN {K : PySem.W.Frag} : Op2 K gNotN (fun x y H Q => y = .non ∧ Q (.bl (!decide (x = .non))) H) := by
  intro F β S H v u x y z Q hr hv hu e k
  unfold gNotN at e
  split at e
  · cases e
    rw [hu.non]
    exact ⟨rfl, by rw [isNon_rp hv]; exact k F β H (Stp.refl F β H) hr _ rfl⟩
  · cases e
theorem cmp_is : CmpOk X C .Is gIsN := ⟨_, op_isN, op2_isN⟩
theorem cmp_isnot : CmpOk X C .IsNot gNotN := ⟨_, op_notN, op2_notN⟩
theorem sim_compare (h : CmpOk X C op g) (ha : PE X a (rdB C ma)) (hb : PE X b (rdB C mb)) (hm : behindInMarks op b = false) : PE X (.Compare a [op] [b] pos) (rd C (dOp2 g ma mb)) := by
  obtain ⟨r, h1, h2⟩ := h
  exact sim_cmp h1 h2 ha hb hm
theorem rdT_rd {m : Dn} {σ : L2.St} {H : Hp} {Q : Bool → Hp → Prop} (h : rdT C m σ H Q) : rd C m σ H fun x H' => ∃ k, x = .bl k ∧ Q k H' := by
  obtain ⟨F, β, S, ρ, r, er, s0, o⟩ := h
  refine ⟨F, β, S, ρ, r, er, s0, o.mono fun v S' F' β' H' _ _ ⟨k, e, q⟩ w rw => ?_⟩
  subst e
  exact ⟨k, rw, q⟩
theorem sim_compareT (h : CmpOk X C op g) (ha : PE X a (rdB C ma)) (hb : PE X b (rdB C mb)) (hm : behindInMarks op b = false) : PT X (.Compare a [op] [b] pos) (rdT C (dOp2 g ma mb)) := by
  obtain ⟨r, h1, h2⟩ := h
  exact (pt_cmpR h1 ha hb hm).imp fun σ H Q q => op2_core h2 (rdT_rd q)
/-- an expression whose value is a bool, as a test -/
theorem sim_val {e : Expr} {m : Dn} (h : PE X e (rd C m)) (he : ∀ whole, isTrue e X.env whole = (do let v ← whole; standAt e.pos; holding [v] (truthy v))) : PT X e (rdT C m) := (pt_val h he).imp fun σ H Q q => rdT_rd q
/-! ### and, or, not -/
def dAnd (a b : Dn) : Dn := fun ρ S => bnd (a ρ S) fun v S1 => match v with
  | .bl true => b ρ S1
  | .bl false => .ok (.bl false) S1
  | _ => .bad
def dOr (a b : Dn) : Dn := fun ρ S => bnd (a ρ S) fun v S1 => match v with
  | .bl true => .ok (.bl true) S1
  | .bl false => b ρ S1
  | _ => .bad
def dNot (a : Dn) : Dn := fun ρ S => bnd (a ρ S) fun v S1 => match v with
  | .bl k => .ok (.bl (!k)) S1
  | _ => .bad
theorem simW_and1 (ha : PT X a (rdT C ma)) : PW X (.BoolOp .And [a] pos) (rdT C ma) := pw_and1 ha
theorem simW_or1 (ha : PT X a (rdT C ma)) : PW X (.BoolOp .Or [a] pos) (rdT C ma) := pw_or1 ha
variable {rest : List Expr}
theorem simW_and (ha : PT X a (rdT C ma)) (hb : PW X (.BoolOp .And (b :: rest) pos) (rdT C mb)) : PW X (.BoolOp .And (a :: b :: rest) pos) (rdT C (dAnd ma mb)) := (pw_and ha hb).imp fun σ H Q q => by
  obtain ⟨F, β, S, ρ, r, er, s0, o⟩ := q
  refine ⟨F, β, S, ρ, r, er, s0, o.bind.mono fun v S1 F1 β1 H1 s1 r1 o1 => ?_⟩
  cases v with
  | bl k =>
    refine ⟨k, rfl, ?_⟩
    cases k with
    | true => exact iteT ⟨F1, β1, S1, ρ, r1, er.step s1, s0.trans r s1, o1⟩
    | false =>
      obtain ⟨k, e, q⟩ := o1 F1 β1 H1 (Stp.refl _ _ _) r1
      cases e
      exact iteF q
  | _ => exact o1.elim
theorem simW_or (ha : PT X a (rdT C ma)) (hb : PW X (.BoolOp .Or (b :: rest) pos) (rdT C mb)) : PW X (.BoolOp .Or (a :: b :: rest) pos) (rdT C (dOr ma mb)) := (pw_or ha hb).imp fun σ H Q q => by
  obtain ⟨F, β, S, ρ, r, er, s0, o⟩ := q
  refine ⟨F, β, S, ρ, r, er, s0, o.bind.mono fun v S1 F1 β1 H1 s1 r1 o1 => ?_⟩
  cases v with
  | bl k =>
    refine ⟨k, rfl, ?_⟩
    cases k with
    | false => exact iteF ⟨F1, β1, S1, ρ, r1, er.step s1, s0.trans r s1, o1⟩
    | true =>
      obtain ⟨k, e, q⟩ := o1 F1 β1 H1 (Stp.refl _ _ _) r1
      cases e
      exact iteT q
  | _ => exact o1.elim
theorem simT_not (ha : PT X a (rdT C ma)) : PT X (.UnaryOp .Not a pos) (rdT C (dNot ma)) := (pt_not ha).imp fun σ H Q q => by
  obtain ⟨F, β, S, ρ, r, er, s0, o⟩ := q
  refine ⟨F, β, S, ρ, r, er, s0, o.bind.mono fun v S1 F1 β1 H1 s1 r1 o1 => ?_⟩
  cases v with
  | bl k =>
    obtain ⟨k', e, q⟩ := o1 F1 β1 H1 (Stp.refl _ _ _) r1
    cases e
    exact ⟨k, rfl, q⟩
  | _ => exact o1.elim
theorem simE_one {op : BoolOp} (ha : PE X a (rd C ma)) : PE X (.BoolOp op [a] pos) (rd C ma) := pe_one ha
theorem simE_and (ha : PE X a (rd C ma)) (hb : PE X (.BoolOp .And (b :: rest) pos) (rd C mb)) : PE X (.BoolOp .And (a :: b :: rest) pos) (rd C (dAnd ma mb)) := (pe_and ha hb).imp fun σ H Q q => by
  obtain ⟨F, β, S, ρ, r, er, s0, o⟩ := q
  refine ⟨F, β, S, ρ, r, er, s0, o.bind.mono fun v S1 F1 β1 H1 s1 r1 o1 w rw => ?_⟩
  cases v with
  | bl k =>
    refine ⟨k, rw, ?_⟩
    cases k with
    | true => exact iteT ⟨F1, β1, S1, ρ, r1, er.step s1, s0.trans r s1, o1⟩
    | false => exact iteF (o1 F1 β1 H1 (Stp.refl _ _ _) r1 _ rfl)
  | _ => exact o1.elim
theorem simE_or (ha : PE X a (rd C ma)) (hb : PE X (.BoolOp .Or (b :: rest) pos) (rd C mb)) : PE X (.BoolOp .Or (a :: b :: rest) pos) (rd C (dOr ma mb)) := (pe_or ha hb).imp fun σ H Q q => by
  obtain ⟨F, β, S, ρ, r, er, s0, o⟩ := q
  refine ⟨F, β, S, ρ, r, er, s0, o.bind.mono fun v S1 F1 β1 H1 s1 r1 o1 w rw => ?_⟩
  cases v with
  | bl k =>
    refine ⟨k, rw, ?_⟩
    cases k with
    | false => exact iteF ⟨F1, β1, S1, ρ, r1, er.step s1, s0.trans r s1, o1⟩
    | true => exact iteT (o1 F1 β1 H1 (Stp.refl _ _ _) r1 _ rfl)
  | _ => exact o1.elim
theorem simE_not (ha : PE X a (rd C ma)) : PE X (.UnaryOp .Not a pos) (rd C (dNot ma)) := (pe_not ha).imp fun σ H Q q => by
  obtain ⟨F, β, S, ρ, r, er, s0, o⟩ := q
  refine ⟨F, β, S, ρ, r, er, s0, o.bind.mono fun v S1 F1 β1 H1 s1 r1 o1 w rw => ?_⟩
  cases v with
  | bl k => exact ⟨k, rw, o1 F1 β1 H1 (Stp.refl _ _ _) r1 _ rfl⟩
  | _ => exact o1.elim
/-! ### - a -/
def dNeg (a : Dn) : Dn := fun ρ S => bnd (a ρ S) fun v S1 => match v with
  | .int i => .ok (.int (-i)) S1
  | _ => .bad
theorem sim_neg (ha : PE X a (rd C ma)) : PE X (.UnaryOp .USub a pos) (rd C (dNeg ma)) := (pe_un un_neg ha).imp fun σ H Q q => by
  obtain ⟨F, β, S, ρ, r, er, s0, o⟩ := q
  refine ⟨F, β, S, ρ, r, er, s0, o.bind.mono fun v S1 F1 β1 H1 s1 r1 o1 w rw => ?_⟩
  cases v with
  | int i => exact ⟨i, rw, o1 F1 β1 H1 (Stp.refl _ _ _) r1 _ rfl⟩
  | _ => exact o1.elim
/-! ### a if t else b -/
def dIf (t a b : Dn) : Dn := fun ρ S => bnd (t ρ S) fun v S1 => match v with
  | .bl true => a ρ S1
  | .bl false => b ρ S1
  | _ => .bad
theorem sim_ifExp {c : Expr} {mc : Dn} (hc : PT X c (rdT C mc)) (ha : PE X a (rd C ma)) (hb : PE X b (rd C mb)) : PE X (.IfExp c a b pos) (rd C (dIf mc ma mb)) := (pe_ifExp hc ha hb).imp fun σ H Q q => by
  obtain ⟨F, β, S, ρ, r, er, s0, o⟩ := q
  refine ⟨F, β, S, ρ, r, er, s0, o.bind.mono fun v S1 F1 β1 H1 s1 r1 o1 => ?_⟩
  cases v with
  | bl k =>
    refine ⟨k, rfl, ?_⟩
    cases k with
    | true => exact iteT ⟨F1, β1, S1, ρ, r1, er.step s1, s0.trans r s1, o1⟩
    | false => exact iteF ⟨F1, β1, S1, ρ, r1, er.step s1, s0.trans r s1, o1⟩
  | _ => exact o1.elim
/-! ### a < b <= c -/
def dChain (g g' : G2) (a b c : Dn) : Dn := fun ρ S => bnd (a ρ S) fun v S1 => bnd (b ρ S1) fun u S2 => match g v u S2 with
  | some (.bl true) => bnd (c ρ S2) fun t S3 => lift2 g' u t S3
  | some (.bl false) => .ok (.bl false) S2
  | _ => .bad
/-- two ints, no heap -/
def IntCmp (X : Cx) (op : CmpOp) (g : G2) (f : Int → Int → Bool) : Prop := OpR X (compareOp op) (rI0 fun i j => .bl (f i j)) ∧ g = gI (fun _ _ => true) fun i j => .bl (f i j)
theorem ic_lt : IntCmp X .Lt gLtI fun i j => decide (i < j) := ⟨op_lt, rfl⟩
theorem ic_le : IntCmp X .LtE gLeI fun i j => decide (i ≤ j) := ⟨op_le, rfl⟩
theorem gI_some {f : Int → Int → PV} {v u z : PV} {S : Store} (h : gI (fun _ _ => true) f v u S = some z) : ∃ i j, v = .int i ∧ u = .int j ∧ z = f i j := by
  unfold gI at h
  split at h
  · rename_i i j
    cases (show some (f i j) = some z from h)
    exact ⟨i, j, rfl, rfl, rfl⟩
  · cases h
theorem chain_core {mc : Dn} {op' : CmpOp} {g' : G2} {f f' : Int → Int → Bool} (h : IntCmp X op g f) (h' : IntCmp X op' g' f') {σ : L2.St} {H : Hp} {Q : VK} (q : rd C (dChain g g' ma mb mc) σ H Q) :
    tChain (rI0 fun i j => .bl (f i j)) (rI0 fun i j => .bl (f' i j)) (rd C ma) (rd C mb) (rd C mc) σ H Q := by
  obtain ⟨F, β, S, ρ, r, er, s0, o⟩ := q
  refine ⟨F, β, S, ρ, r, er, s0, o.bind.mono fun v S1 F1 β1 H1 s1 r1 o1 w rw => ?_⟩
  refine ⟨F1, β1, S1, ρ, r1, er.step s1, s0.trans r s1, o1.bind.mono fun u S2 F2 β2 H2 s2 r2 o2 w2 rw2 => ?_⟩
  rw [h.2] at o2
  split at o2
  · rename_i hz
    obtain ⟨i, j, rfl, rfl, e⟩ := gI_some hz
    refine ⟨i, j, rw, rw2, f i j, rfl, ?_⟩
    rw [← PV.bl.inj e]
    refine iteT ⟨F2, β2, S2, ρ, r2, (er.step s1).step s2, (s0.trans r s1).trans r1 s2, o2.bind.mono fun t S3 F3 β3 H3 s3 r3 o3 w3 rw3 => ?_⟩
    unfold lift2 at o3
    rw [h'.2] at o3
    split at o3
    · rename_i z hz'
      obtain ⟨i', j', e1, rfl, rfl⟩ := gI_some hz'
      cases e1
      exact ⟨j, j', rw2, rw3, o3 F3 β3 H3 (Stp.refl _ _ _) r3 _ rfl⟩
    · exact o3.elim
  · rename_i hz
    obtain ⟨i, j, rfl, rfl, e⟩ := gI_some hz
    refine ⟨i, j, rw, rw2, f i j, rfl, ?_⟩
    rw [← PV.bl.inj e]
    exact iteF (o2 F2 β2 H2 (Stp.refl _ _ _) r2 _ rfl)
  · exact o2.elim
end
end Py
/-! Arguments, displays, slices, built-in calls. -/
namespace Py
open PySem PySem.Spec L2
section
variable {X : Cx} {C : CC} {a b c : Expr} {ma mb mc : Dn} {pos : Pos}
theorem sim_chain {op op' : CmpOp} {g g' : G2} {f f' : Int → Int → Bool} (h : IntCmp X op g f) (h' : IntCmp X op' g' f') (ha : PE X a (rd C ma)) (hb : PE X b (rd C mb)) (hc : PE X c (rd C mc)) (hm : lastMarks [op, op'] [b, c] = false) :
    PE X (.Compare a [op, op'] [b, c] pos) (rd C (dChain g g' ma mb mc)) := (pe_chain h.1 h'.1 ha hb hc hm).imp fun _ _ _ => chain_core h h'
theorem sim_chainT {op op' : CmpOp} {g g' : G2} {f f' : Int → Int → Bool} (h : IntCmp X op g f) (h' : IntCmp X op' g' f') (ha : PE X a (rd C ma)) (hb : PE X b (rd C mb)) (hc : PE X c (rd C mc)) (hm : lastMarks [op, op'] [b, c] = false) :
    PT X (.Compare a [op, op'] [b, c] pos) (rdT C (dChain g g' ma mb mc)) := (pt_chain h.1 h'.1 ha hb hc hm).imp fun _ _ _ q => chain_core h h' (rdT_rd q)

/-! ### arguments and displays -/
def dNil : Dna := fun _ S => .ok [] S
def dCons (m : Dn) (ms : Dna) : Dna := fun ρ S => bnd (m ρ S) fun v S1 => bnd (ms ρ S1) fun vs S2 => .ok (v :: vs) S2
theorem simA_nil : PA X [] (rdA C dNil) := pa_nil.imp fun σ H Q q => by
  obtain ⟨F, β, S, ρ, r, er, s0, o⟩ := q
  exact o F β H (Stp.refl F β H) r [] rfl
theorem simA_cons {e : Expr} {es : List Expr} {m : Dn} {ms : Dna} (he : PE X e (rd C m)) (hs : PA X es (rdA C ms)) (hst : starEach (e :: es) X.env = (false, eval e X.env) :: starEach es X.env) : PA X (e :: es) (rdA C (dCons m ms)) := (pa_cons he hs hst).imp fun σ H Q q => by
  obtain ⟨F, β, S, ρ, r, er, s0, o⟩ := q
  refine ⟨F, β, S, ρ, r, er, s0, o.bind.mono fun v S1 F1 β1 H1 s1 r1 o1 w rw => ?_⟩
  refine ⟨F1, β1, S1, ρ, r1, er.step s1, s0.trans r s1, o1.bind.mono fun vs S2 F2 β2 H2 s2 r2 o2 ws rws => ?_⟩
  exact o2 F2 β2 H2 (Stp.refl _ _ _) r2 (w :: ws) ⟨w, ws, rfl, Rp.mono s2.mono s2.pre v w rw, rws⟩
def dTup (ms : Dna) : Dn := fun ρ S => bnd (ms ρ S) fun vs S1 => if vs.length ≤ sz then .ok (.tup vs) S1 else .bad
def dLst (ms : Dna) : Dn := fun ρ S => bnd (ms ρ S) fun vs S1 => if vs.length ≤ sz then .ok (.lst vs) S1 else .bad
theorem sim_tup {es : List Expr} {ms : Dna} {k : Nat} (h : PA X es (rdA C ms)) : PE X (.Tuple es k pos) (rd C (dTup ms)) := (pe_tup h).imp fun σ H Q q => by
  obtain ⟨F, β, S, ρ, r, er, s0, o⟩ := q
  refine ⟨F, β, S, ρ, r, er, s0, o.bind.mono fun vs S1 F1 β1 H1 s1 r1 o1 ws rw => ?_⟩
  split at o1
  · rename_i hz
    have hl : ws.length ≤ sizeLine := by rw [← rw.length, ← sz_eq]; exact hz
    refine ⟨hl, fun p hp => ?_⟩
    obtain ⟨n1, n2⟩ := r1.newF (o := .tup ws) hp
    exact o1 _ _ _ n2 n1 _ ⟨p, ws, rfl, SqT.of upd_same, hl, Rps.mono n2.mono n2.pre _ _ rw⟩
  · exact o1.elim
theorem Stp.fresh {F H F' H' : Hp} {β β' : List Addr} (s : Stp F β H F' β' H') {p : Addr} (h : H' p = none) : H p = none := by
  cases e : H p with
  | none => rfl
  | some o =>
    obtain ⟨o', e'⟩ := s.there p o e
    rw [h] at e'; cases e'
theorem sim_lst {es : List Expr} {ms : Dna} (h : PA X es (rdA C ms)) : PE X (.List es pos) (rdN C (dLst ms)) := (pe_lst h).imp fun σ H Q q => by
  obtain ⟨F, β, S, ρ, r, er, s0, o⟩ := q
  refine ⟨F, β, S, ρ, r, er, s0, o.bind.mono fun vs S1 F1 β1 H1 s1 r1 o1 ws rw => ?_⟩
  split at o1
  · rename_i hz
    have hl : ws.length ≤ sizeLine := by rw [← rw.length, ← sz_eq]; exact hz
    refine ⟨hl, fun p hp => ?_⟩
    obtain ⟨n1, n2⟩ := r1.newO (o := .lst ws) hp
    exact o1 _ _ _ n2 n1 p (s1.fresh hp) (r1.fnone hp) (r1.notIn hp) ⟨ws, upd_same, hl, rw⟩
  · exact o1.elim

/-! ### slices -/
def rdO (C : CC) (m : Env → Store → Res (Option Int)) : TO := fun σ H Q => ∃ F β S ρ, HRel C.K F β S H ∧ ERel C.K F β C.H0 C.xA H ρ σ ∧ Stp C.F0 C.B0 C.H0 F β H ∧
  Outc C F β H σ (m ρ S) fun o _ _ _ H' => Q o H'
theorem _root_.L2.PO.imp {X : Cx} {e : Option Expr} {t t' : TO} (h : PO X e t) (i : ∀ σ H Q, t' σ H Q → t σ H Q) : PO X e t' := ⟨fun pins s σ H Q I q => h.run pins s σ H Q I (i σ H Q q)⟩
def dPart (m : Dn) : Env → Store → Res (Option Int) := fun ρ S => bnd (m ρ S) fun v S1 => match v with
  | .int i => .ok (some i) S1
  | _ => .bad
def dNoPart : Env → Store → Res (Option Int) := fun _ S => .ok none S
theorem simO_none : PO X none (rdO C dNoPart) := po_none.imp fun σ H Q q => by
  obtain ⟨F, β, S, ρ, r, er, s0, o⟩ := q
  exact o F β H (Stp.refl F β H) r
theorem simO_some {e : Expr} {m : Dn} (h : PE X e (rd C m)) : PO X (some e) (rdO C (dPart m)) := (po_some h).imp fun σ H Q q => by
  obtain ⟨F, β, S, ρ, r, er, s0, o⟩ := q
  refine ⟨F, β, S, ρ, r, er, s0, o.bind.mono fun v S1 F1 β1 H1 s1 r1 o1 w rw => ?_⟩
  cases v with
  | int i => exact ⟨i, rw, o1 F1 β1 H1 (Stp.refl _ _ _) r1⟩
  | _ => exact o1.elim
abbrev GS := PV → Option Int → Option Int → Store → Option PV
def SlOk (K : PySem.W.Frag) (g : GS) (r : V → Option Int → Option Int → Hp → VK → Prop) : Prop := ∀ (F : Hp) (β : List Addr) (S : Store) (H : Hp) (v : PV) (lo hi : Option Int) (x : V) (z : PV) (Q : VK), HRel K F β S H → RpB K F β H v x → g v lo hi S = some z →
  (∀ F' β' H', Stp F β H F' β' H' → HRel K F' β' S H' → ∀ w, Rp K F' β' z w → Q w H') → r x lo hi H Q
def SlOkN (K : PySem.W.Frag) (g : GS) (r : V → Option Int → Option Int → Hp → VK → Prop) : Prop := ∀ (F : Hp) (β : List Addr) (S : Store) (H : Hp) (v : PV) (lo hi : Option Int) (x : V) (z : PV) (Q : VK), HRel K F β S H → RpB K F β H v x → g v lo hi S = some z →
  (∀ F' β' H', Stp F β H F' β' H' → HRel K F' β' S H' → ∀ a, H a = none → F' a = none → a ∉ β' → OwnAt K F' β' H' a z → Q (.ref a) H') → r x lo hi H Q
def liftS (g : GS) (v : PV) (lo hi : Option Int) (S : Store) : Res PV := match g v lo hi S with
  | some z => .ok z S
  | none => .bad
def dSl (g : GS) (m : Dn) (lo hi : Env → Store → Res (Option Int)) : Dn := fun ρ S => bnd (m ρ S) fun v S1 => bnd (lo ρ S1) fun l S2 => bnd (hi ρ S2) fun h S3 => liftS g v l h S3
def cutP (xs : List PV) (lo hi : Option Int) : List PV := (xs.drop (HT.sIx xs.length 0 lo)).take (HT.sIx xs.length xs.length hi - HT.sIx xs.length 0 lo)
def gSlT : GS := fun v lo hi _ => match v with
  | .tup xs => some (.tup (cutP xs lo hi))
  | _ => none
def gSlL : GS := fun v lo hi _ => match v with
  | .lst xs => some (.lst (cutP xs lo hi))
  | _ => none
def gSlS : GS := fun v lo hi _ => match v with
  | .str z => if z.length ≤ sz then some (.str (cutS z lo hi)) else none
  | _ => none
theorem Rps.cut {K : PySem.W.Frag} {F : Hp} {β : List Addr} {xs : List PV} {vs : List V} (h : Rps K F β xs vs) (lo hi : Option Int) : Rps K F β (cutP xs lo hi) (cutV vs lo hi) := by
  unfold cutP cutV
  rw [h.length]
  exact (h.drop _).take _
theorem cut_whole {K : PySem.W.Frag} {F : Hp} {β : List Addr} {xs : List PV} {vs : List V} {lo hi : Option Int} (h : Rps K F β xs vs) (w : HT.sIx vs.length 0 lo = 0 ∧ HT.sIx vs.length vs.length hi = vs.length) : cutP xs lo hi = xs := by
  unfold cutP
  rw [h.length, w.1, w.2, Nat.sub_zero, List.drop_zero, ← h.length, List.take_length]
theorem slok_T {K : PySem.W.Frag} : SlOk K gSlT (rSlA K) := by
  intro F β S H v lo hi x z Q hr hv e k
  unfold gSlT at e
  split at e
  · rename_i xs
    cases e
    obtain ⟨a, vs, rfl, h1, z1, r1⟩ := hv.tup
    refine ⟨a, vs, rfl, hr.le.sqT h1, fun w => ?_, fun w p hp => ?_⟩
    · rw [cut_whole r1 w] at k
      exact k F β H (Stp.refl _ _ _) hr _ ⟨a, vs, rfl, h1, z1, r1⟩
    · obtain ⟨n1, n2⟩ := hr.newF (o := .tup (cutV vs lo hi)) hp
      exact k _ _ _ n2 n1 _ ⟨p, _, rfl, SqT.of upd_same, Nat.le_trans (cutV_length vs lo hi) z1, Rps.mono n2.mono n2.pre _ _ (r1.cut lo hi)⟩
  · cases e
theorem slok_L {K : PySem.W.Frag} : SlOkN K gSlL (rSlL K) := by
  intro F β S H v lo hi x z Q hr hv e k
  unfold gSlL at e
  split at e
  · rename_i xs
    cases e
    obtain ⟨a, vs, rfl, h1, z1, r1⟩ := hv.lst hr.le
    refine ⟨a, vs, rfl, SqL.of h1, fun p hp => ?_⟩
    obtain ⟨n1, n2⟩ := hr.newO (o := .lst (cutV vs lo hi)) hp
    exact k _ _ _ n2 n1 p hp (hr.fnone hp) (hr.notIn hp) ⟨_, upd_same, Nat.le_trans (cutV_length vs lo hi) z1, r1.cut lo hi⟩
  · cases e
theorem frz_one {K : PySem.W.Frag} {F F' H H' : Hp} {β β' : List Addr} {S : Store} {a : Addr} {z : PV} {Q : VK} (s : Stp F β H F' β' H') (r' : HRel K F' β' S H') (h1 : H a = none) (h2 : F' a = none) (h3 : a ∉ β') (h4 : OwnAt K F' β' H' a z)
    (k : ∀ F2 β2 H2, Stp F β H F2 β2 H2 → HRel K F2 β2 S H2 → ∀ w, Rp K F2 β2 z w → Q w H2) : Q (.ref a) H' := by
  cases z with
  | lst xs =>
    obtain ⟨vs, e1, hz, rp⟩ := h4
    refine k (upd F' a (.lst vs)) β' H' ⟨s.mono.trans (FLe.upd h2), s.pre, s.keep, fun b u e2 e3 e4 => ?_, s.there⟩ (r'.freeze e1 h2 h3) (.ref a) ⟨a, vs, rfl, upd_same, hz, Rps.mono (FLe.upd h2) (List.prefix_refl _) _ _ rp⟩
    obtain ⟨q1, q2⟩ := s.sep b u e2 e3 e4
    refine ⟨?_, q2⟩
    rw [upd_ne (ne_of_none e2 h1)]; exact q1
  | _ => exact h4.elim
theorem SlOkN.frz {K : PySem.W.Frag} {g : GS} {r : V → Option Int → Option Int → Hp → VK → Prop} (h : SlOkN K g r) : SlOk K g r := by
  intro F β S H v lo hi x z Q hr hv e k
  exact h F β S H v lo hi x z Q hr hv e fun F' β' H' s r' a h1 h2 h3 h4 => frz_one s r' h1 h2 h3 h4 k
theorem SlOk.or {K : PySem.W.Frag} {g g' : GS} {r r' : V → Option Int → Option Int → Hp → VK → Prop} (h : SlOk K g r) (h' : SlOk K g' r') : SlOk K (fun v lo hi S => (g v lo hi S).or (g' v lo hi S)) (fun x lo hi H Q => r x lo hi H Q ∨ r' x lo hi H Q) := by
  intro F β S H v lo hi x z Q hr hv e k
  have e : (g v lo hi S).or (g' v lo hi S) = some z := e
  cases q : g v lo hi S with
  | some a =>
    have e : some a = some z := by rw [q] at e; exact e
    cases e
    exact .inl (h F β S H v lo hi x _ Q hr hv q k)
  | none =>
    have e : g' v lo hi S = some z := by rw [q] at e; exact e
    exact .inr (h' F β S H v lo hi x z Q hr hv e k)
theorem slok_S {K : PySem.W.Frag} : SlOk K gSlS (fun x lo hi H Q => ∃ z, x = .str z ∧ z.length ≤ sizeLine ∧ Q (.str (cutS z lo hi)) H) := by
  intro F β S H v lo hi x z Q hr hv e k
  unfold gSlS at e
  split at e
  · rename_i xs
    split at e
    · rename_i hz
      cases e
      exact ⟨xs, hv.str, by rw [← sz_eq]; exact hz, k F β H (Stp.refl _ _ _) hr _ rfl⟩
    · cases e
  · cases e
def gSl : GS := fun v lo hi S => (gSlT v lo hi S).or ((gSlL v lo hi S).or (gSlS v lo hi S))
theorem sl_core {g : GS} {r : V → Option Int → Option Int → Hp → VK → Prop} (ho : SlOk C.K g r) {m : Dn} {ml mh : Env → Store → Res (Option Int)} {σ : L2.St} {H : Hp} {Q : VK} (q : rd C (dSl g m ml mh) σ H Q) :
    tSl r (rdB C m) (rdO C ml) (rdO C mh) σ H Q := by
  obtain ⟨F, β, S, ρ, hr, er, s0, o⟩ := q
  refine ⟨F, β, S, ρ, hr, er, s0, o.bind.mono fun v S1 F1 β1 H1 s1 r1 o1 w rw => ?_⟩
  refine ⟨F1, β1, S1, ρ, r1, er.step s1, s0.trans hr s1, o1.bind.mono fun l S2 F2 β2 H2 s2 r2 o2 => ?_⟩
  refine ⟨F2, β2, S2, ρ, r2, (er.step s1).step s2, (s0.trans hr s1).trans r1 s2, o2.bind.mono fun h S3 F3 β3 H3 s3 r3 o3 => ?_⟩
  unfold liftS at o3
  split at o3
  · rename_i z hz
    exact ho F3 β3 S3 H3 v l h w z Q r3 ((rw.step s2).step s3) hz o3
  · exact o3.elim
theorem sl_coreN {g : GS} {r : V → Option Int → Option Int → Hp → VK → Prop} (ho : SlOkN C.K g r) {m : Dn} {ml mh : Env → Store → Res (Option Int)} {σ : L2.St} {H : Hp} {Q : VK} (q : rdN C (dSl g m ml mh) σ H Q) :
    tSl r (rdB C m) (rdO C ml) (rdO C mh) σ H Q := by
  obtain ⟨F, β, S, ρ, hr, er, s0, o⟩ := q
  refine ⟨F, β, S, ρ, hr, er, s0, o.bind.mono fun v S1 F1 β1 H1 s1 r1 o1 w rw => ?_⟩
  refine ⟨F1, β1, S1, ρ, r1, er.step s1, s0.trans hr s1, o1.bind.mono fun l S2 F2 β2 H2 s2 r2 o2 => ?_⟩
  refine ⟨F2, β2, S2, ρ, r2, (er.step s1).step s2, (s0.trans hr s1).trans r1 s2, o2.bind.mono fun h S3 F3 β3 H3 s3 r3 o3 => ?_⟩
  unfold liftS at o3
  split at o3
  · rename_i z hz
    exact ho F3 β3 S3 H3 v l h w z Q r3 ((rw.step s2).step s3) hz fun F' β' H' s' r' p h1 h2 h3 h4 => o3 F' β' H' s' r' p (s1.fresh (s2.fresh (s3.fresh h1))) h2 h3 h4
  · exact o3.elim
theorem sim_slice {e : Expr} {lo hi : Option Expr} {m : Dn} {ml mh : Env → Store → Res (Option Int)} {p2 : Pos} (hK : C.K = X.K) (he : PE X e (rdB C m)) (hl : PO X lo (rdO C ml)) (hh : PO X hi (rdO C mh)) :
    PE X (.Subscript e (.Slice lo hi none p2) pos) (rd C (dSl gSl m ml mh)) :=
  (pe_slice ((hK ▸ sl_tupA : SlR X (rSlA C.K)).or ((hK ▸ sl_list : SlR X (rSlL C.K)).or sl_str)) he hl hh).imp fun _ _ _ => sl_core (slok_T.or (slok_L.frz.or slok_S))
theorem sim_sliceN {e : Expr} {lo hi : Option Expr} {m : Dn} {ml mh : Env → Store → Res (Option Int)} {p2 : Pos} (hK : C.K = X.K) (he : PE X e (rdB C m)) (hl : PO X lo (rdO C ml)) (hh : PO X hi (rdO C mh)) :
    PE X (.Subscript e (.Slice lo hi none p2) pos) (rdN C (dSl gSlL m ml mh)) :=
  (pe_slice (hK ▸ sl_list : SlR X (rSlL C.K)) he hl hh).imp fun _ _ _ => sl_coreN slok_L
end
end Py
/-! The order of data; sorted. -/
namespace Py
open PySem PySem.Calls PyProof.Rows PySem.SeqAt PySem.W

/-! ### tuples, empty ones among them, are sorted -/
section
variable {prog : Program} {w : World} {A : Around} {E : Value → Shared → Prop} {s : Shared}
theorem call_tuple_lt' {Q : Value → Shared → Prop} {l b : Addr} {items items2 : Array Value} {e r : Nat → Bool} (hl : s.heap.IsTuple l items) (hb : s.heap.IsTuple b items2)
    (he : ∀ j (h1 : j < items.size) (h2 : j < items2.size), EqAt A.in1 s items[j] items2[j] (e j)) (hr : ∀ j (h1 : j < items.size) (h2 : j < items2.size), e j = false → RcLt A.in1 s items[j] items2[j] (r j))
    (h : Q (.bool (firstLt e r (decide (items.size < items2.size)) (List.range (min items.size items2.size)))) s) : wpAny (model prog w) A (call (.builtin "tuple.__lt__") [.ref l, .ref b]) Q E s := by
  obtain ⟨⟨cls, dd, data, sl⟩, ho, hc, n, hd⟩ := id hl
  obtain ⟨⟨cls2, dd2, data2, sl2⟩, ho2, hc2, n2, hd2⟩ := id hb
  simp only at hc hd hc2 hd2
  subst hc hd hc2 hd2
  exact call_meets PySem.F.slot_tuple_lt ⟨_, ho, rfl⟩ PySem.F.entry_tuple_lt (PySem.F.args_tuple_lt_2 _ _) (tuple_ltAt l b items items2 n n2 dd dd2 sl sl2 e r) ⟨ho, ho2, he, hr, h⟩
theorem one_tups {xs ys : List PyData} {a b : Value} {as bs : List Addr} {Q : Bool → Shared → Prop} (ra : Reads s.heap a (.tuple xs) as) (rb : Reads s.heap b (.tuple ys) bs) (h : alike (.tuple xs) (.tuple ys) = true)
    (hu : A.units + min (PyData.tuple xs).depth (PyData.tuple ys).depth < cLine) (hq : Q (dataLt (.tuple xs) (.tuple ys)) s) : wpAny (model prog w) A (oneLt' true a b) Q E s := by
  have hal : alikeAll xs ys = true := by simpa [alike] using h
  cases ra with
  | @tuple l o vs n _ as₁ h1 h2 h3 h4 =>
    cases rb with
    | @tuple l' o' vs' n' _ bs₁ k1 k2 k3 k4 =>
      have n1 : vs.size = xs.length := by simpa using ReadsAll.length _ _ _ h4
      have n2 : vs'.size = ys.length := by simpa using ReadsAll.length _ _ _ k4
      rw [dataLt_tuple, ← firstLt_toks xs ys hal, ← n1, ← n2] at hq
      rw [oneLt'_eq]
      simp only [if_true]
      refine wpAny_bind (wpAny_cRoomFor (room_here hu) ?_)
      refine wpAny_bind (wpAny_callSpecialIfBound?_slot (T := "tuple") ⟨_, h1, h2⟩ PySem.F.slot_tuple_lt (call_tuple_lt' (e := pairEq xs ys) (r := fun j => dataLt (xs.getD j .none) (ys.getD j .none)) ⟨_, h1, h2, _, h3⟩ ⟨_, k1, k2, _, k3⟩ (fun j j1 j2 => ?_) (fun j j1 j2 hj => ?_) ?_))
      · have := eqAt_alikeAll xs ys A.in1 s vs.toList vs'.toList _ _ h4 k4 hal (room_in hu) j (by simpa using j1) (by simpa using j2)
        simpa using this
      · have := rcLt_alikeAll xs ys A.in1 s vs.toList vs'.toList _ _ h4 k4 hal (room_in hu) j (by simpa using j1) (by simpa using j2) hj
        simpa using this
      · exact wpAny_truthy_bool hq
theorem firsts_tups {M : Model} : ∀ {vs : List Value} {ds : List PyData}, EachIs (fun v d => ∃ as, Reads s.heap v d as) vs ds → (∀ d ∈ ds, ∃ xs, d = .tuple xs) →
    ∃ os : List (Option Value), (∀ (E : Value → Shared → Prop) {Q : List (Option Value) → Shared → Prop}, Q os s → wpAny M A (vs.mapM firstOfTuple') Q E s) ∧ os.length = vs.length ∧ (os.all (·.isSome) = true → ∀ d ∈ ds, ∃ x r, d = .tuple (x :: r))
  | _, _, .nil, _ => ⟨[], fun E Q h => by rw [List.mapM_nil]; exact wpAny_pure h, rfl, fun _ d hd => by simp at hd⟩
  | _, _, .cons (a := v) (as := vs) (b := d) (bs := ds) ⟨as, r⟩ t, hd => by
    obtain ⟨xs, rfl⟩ := hd d (List.mem_cons_self ..)
    obtain ⟨os, h1, h2, h3⟩ := firsts_tups (M := M) t fun d hm => hd d (List.mem_cons_of_mem _ hm)
    cases r with
    | @tuple a o ys n _ _ ho hc hdt hr =>
      refine ⟨ys[0]? :: os, fun E Q h => ?_, by simp [h2], fun ha d hm => ?_⟩
      · rw [List.mapM_cons]
        refine wpAny_bind ?_
        rw [kas_first_eq]
        refine wpAny_bind (Looks.here (show Looks M s.heap (typeOf (.ref a)) o.cls from (Looks.ld ho).andThen .now) ?_)
        rw [hc, if_neg (by first | decide | simp)]
        refine wpAny_bind (listItems_at ho hdt (wpAny_pure ?_))
        exact wpAny_bind (h1 _ (Q := fun bs s' => wpAny M A (pure (ys[0]? :: bs)) Q E s') (wpAny_pure h))
      · rw [List.all_cons, Bool.and_eq_true] at ha
        rcases List.mem_cons.mp hm with rfl | hm
        · have hl : ys.toList.length = xs.length := by simpa using ReadsAll.length _ _ _ hr
          cases xs with
          | nil =>
            exfalso
            have : ys.size = 0 := by simpa using hl
            rw [Array.getElem?_eq_none (by omega)] at ha
            exact absurd ha.1 (by simp)
          | cons x r => exact ⟨x, r, rfl⟩
        · exact h3 ha.2 d hm
/-- values that read as alike tuples can be sorted -/
theorem SortsAt.tups {vs : List Value} {ds : List PyData} (e : EachIs (fun v d => ∃ as, Reads s.heap v d as) vs ds) (hal : AllAlike ds) (hk : ∀ d ∈ ds, ∃ xs, d = .tuple xs) (hu : ∀ d, d ∈ ds → A.units + d.depth < cLine) : SortsAt prog w A s (dataKind s.heap ds) vs := by
  by_cases hs : Sortable ds
  · exact SortsAt.data e hal hs hu
  have room : ∀ {d d' : PyData}, d ∈ ds → A.units + min d.depth d'.depth < cLine := fun {d d'} hd => Nat.lt_of_le_of_lt (Nat.add_le_add_left (Nat.min_le_left _ _) _) (hu d hd)
  refine ⟨fun v hv => ?_, ?_⟩
  · obtain ⟨d, hd, as, r⟩ := e.left v hv
    exact ⟨_, dataKind_some hal hd r⟩
  obtain ⟨os, o1, o2, o3⟩ := firsts_tups (M := model prog w) (A := A) e hk
  have hne : os.all (·.isSome) = false := by
    cases q : os.all (·.isSome) with
    | false => rfl
    | true => exact absurd (.inl (o3 q)) hs
  have hne' : (os.toArray.all (·.isSome)) = false := by rw [List.all_toArray]; exact hne
  by_cases h0 : (os.toArray[0]?.bind id).isSome = true
  · refine ⟨general', ?_, fun h2 E Q hq => ?_⟩
    · intro E x y a b Q ha hb hq
      obtain ⟨d, as, hd, ra, rfl⟩ := dataKind_inv ha
      obtain ⟨d', as', hd', rb, rfl⟩ := dataKind_inv hb
      obtain ⟨xs, rfl⟩ := hk d hd
      exact oneLt_alike (f := false) (fun z => nomatch z) ra rb (hal _ hd d' hd') (fun z => nomatch z) (room hd) hq
    · rw [kat_kind_eq, List.mapM_toArray, map_eq_pure_bind]
      refine wpAny_bind (wpAny_bind (o1 _ (wpAny_pure ?_)))
      rw [if_neg (by rw [hne']; simp), if_pos h0]
      exact wpAny_pure hq
  · refine ⟨oneType', ?_, fun h2 E Q hq => ?_⟩
    · intro E x y a b Q ha hb hq
      obtain ⟨d, as, hd, ra, rfl⟩ := dataKind_inv ha
      obtain ⟨d', as', hd', rb, rfl⟩ := dataKind_inv hb
      rw [keyLt'_oneType]
      obtain ⟨xs, rfl⟩ := hk d hd
      obtain ⟨ys, rfl⟩ := hk d' hd'
      exact one_tups ra rb (hal _ hd _ hd') (room hd) hq
    · rw [kat_kind_eq, List.mapM_toArray, map_eq_pure_bind]
      refine wpAny_bind (wpAny_bind (o1 _ (wpAny_pure ?_)))
      rw [if_neg (by rw [hne']; simp), if_neg h0]
      rw [oneTypeOnly'_eq, List.mapM_toArray, map_eq_pure_bind]
      refine wpAny_bind (wpAny_bind (wpAny_bind (kas_mapM (r := Value.type "tuple") _ (fun v hv Q' hq => ?_) (wpAny_pure ?_))))
      · obtain ⟨d, hd, as, r⟩ := e.left v hv
        obtain ⟨xs, rfl⟩ := hk d hd
        exact (looks_reads r).here hq
      · obtain ⟨v₁, rest, rfl⟩ : ∃ v₁ rest, vs = v₁ :: rest := by
          match vs, h2 with
          | v₁ :: rest, _ => exact ⟨v₁, rest, rfl⟩
        have hall : ((List.map (fun _ => Value.type "tuple") (v₁ :: rest)).toArray.all fun x => x == Value.type "tuple") = true := by
          simp only [List.all_toArray, List.all_map, List.all_eq_true]
          intro _ _
          rfl
        have h00 : (List.map (fun _ => Value.type "tuple") (v₁ :: rest)).toArray[0]? = some (Value.type "tuple") := by simp
        rw [h00]
        simp only [hall, if_true]
        exact wpAny_pure (wpAny_pure hq)
/-- data that sorted takes: tuples, or no tuples and no None -/
def CanSort (ds : List PyData) : Prop := (∀ d ∈ ds, ∃ xs, d = .tuple xs) ∨ ∀ d, d ∈ ds → d ≠ .none ∧ ∀ xs, d ≠ .tuple xs
theorem SortsAt.can {vs : List Value} {ds : List PyData} (e : EachIs (fun v d => ∃ as, Reads s.heap v d as) vs ds) (hal : AllAlike ds) (hk : CanSort ds) (hu : ∀ d, d ∈ ds → A.units + d.depth < cLine) : SortsAt prog w A s (dataKind s.heap ds) vs := by
  rcases hk with h | h
  · exact SortsAt.tups e hal h hu
  · exact SortsAt.data e hal (.inr h) hu
theorem collect_tup {l : Addr} {vs : List Value} {Q : List Value → Shared → Prop} (hl : s.heap.IsTuple l vs.toArray)
    (h : Q vs { s with heap := (s.heap.push (seqObj "list" #[] 0)).update s.heap.objs.size (Obj.mapSeq (· ++ vs.toArray)) }) (hsz : vs.length ≤ sizeLine) :
    wpAny (model prog w) A (collect (.ref l)) Q E s := by
  obtain ⟨o, ho, hc, n, hd⟩ := id hl
  unfold collect
  refine wpAny_bind (wpAny_runValue (codeAny_builtin entry_proto_collect' ?_))
  show wpAny _ _ (do again (.builtin "list.__iadd__" ⟨[← newList [], .ref l], []⟩)) _ _ s
  refine wpAny_bind (wpAny_newList (wpAny_pure ⟨Code.quiet_builtin _ (by decide +kernel), codeAny_builtin entry_list_iadd' ?_⟩))
  show wpAny _ _ (Builtin.List.listExtendWith (.ref s.heap.objs.size) (.ref l) (.ref s.heap.objs.size)) _ _ { s with heap := s.heap.push (seqObj "list" #[] 0) }
  unfold Builtin.List.listExtendWith
  have ho' : (s.heap.push (seqObj "list" #[] 0)).get? l = some o := Heap.get?_push_of_some _ ho
  refine wpAny_bind (wpAny_typeOf (T := "tuple") ⟨o, ho', hc⟩ ?_)
  have ht : (Value.type "tuple" == Value.type "tuple") = true := by rfl
  rw [if_pos (by rw [ht]; simp)]
  refine wpAny_bind (listItems_at ho' hd ?_)
  refine wpAny_bind (listItems_at (xs := #[]) (n := 0) (Heap.get?_push_size _ rfl) rfl ?_)
  rw [if_neg (by simp)]
  refine wpAny_bind (listUpdate_at (xs := #[]) (n := 0) (Heap.get?_push_size _ rfl) rfl ?_ (Nat.zero_le _) (by show (#[] ++ vs.toArray).size ≤ sizeLine + 1; simp only [Array.size_append, List.size_toArray, List.length_nil]; omega))
  refine wpAny_pure ?_
  show wpAny (model prog w) A (do
      let o ← load s.heap.objs.size
      match o.data with
      | .seq xs _ => pure xs.toList
      | _ => unsupported "internal:collect") Q E { s with heap := (s.heap.push (seqObj "list" #[] 0)).update s.heap.objs.size (Obj.mapSeq (· ++ vs.toArray)) }
  refine wpAny_bind (wpAny_load (get?_update_seq (Heap.get?_push_size _ rfl) _) ?_)
  show wpAny _ _ (pure ((#[] : Array Value) ++ vs.toArray).toList) Q E _
  rw [show ((#[] : Array Value) ++ vs.toArray).toList = vs by simp]
  exact wpAny_pure h
theorem sorted_of_sortT {l : Addr} {vs : List Value} {kw : List (Str × Value)} {Q : Value → Shared → Prop} (hl : s.heap.IsTuple l vs.toArray) (hL : vs.length ≤ sizeLine) (ha1 : argsOk "sorted" ⟨[.ref l], kw⟩) (ha2 : ∀ x, argsOk "list.sort" ⟨[.ref x], kw⟩)
    (body : ∀ E' : Value → Shared → Prop, wpAny (model prog w) A.in1.in1 (Builtin.«list.sort» ⟨[.ref (s.heap.objs.size + 1)], kw⟩) (fun f s' => f = .done (.ret .none) ∧ Q (.ref (s.heap.objs.size + 1)) s') E' { s with heap := copyHeap s.heap vs }) :
    wpAny (model prog w) A (call (.builtin "sorted") [.ref l] kw) Q E s := by
  refine call_function_entry_kw kind_sorted plain_sorted entry_sorted ha1 ?_
  unfold Builtin.«sorted»
  refine wpAny_bind (m := checkCount "sorted" 1 1 _) (wpAny_pure ?_)
  refine wpAny_bind (collect_tup hl ?_ hL)
  refine wpAny_bind (wpAny_newList ?_ hL)
  have hsz : ((s.heap.push (seqObj "list" #[] 0)).update s.heap.objs.size (Obj.mapSeq (· ++ vs.toArray))).objs.size = s.heap.objs.size + 1 := by
    rw [Heap.size_update, size_push']
  show wpAny _ _ _ _ _ { s with heap := copyHeap s.heap vs }
  rw [hsz]
  refine wpAny_bind (wpAny_holding (wpAny_call_entry_kw slot_list_sort ⟨_, copyHeap_at s.heap vs, rfl⟩ entry_list_sort ?body (ha2 _)))
  case body =>
    show wpAny (model prog w) A.in1.in1 (Builtin.«list.sort» ⟨[.ref (s.heap.objs.size + 1)], kw⟩) _ _ _
    refine wpAny_mono (body _) (fun f s' hf => ?_) fun _ _ e => e
    obtain ⟨rfl, hq⟩ := hf
    exact ⟨_, rfl, wpAny_pure ⟨_, rfl, hq⟩⟩
theorem sorted_can {β : Type} {vs : List Value} {bs : List β} {enc : β → PyData} {R : Value → β → Prop} {l : Addr} {Q : Value → Shared → Prop} (hl : s.heap.IsList l vs.toArray) (e : EachIs R vs bs) (er : EachIs (fun v b => ∃ as, Reads s.heap v (enc b) as) vs bs) (hal : AllAlike (bs.map enc)) (hk : CanSort (bs.map enc)) (hL : bs.length ≤ sizeLine)
    (hu : ∀ b, b ∈ bs → A.units + 2 + (enc b).depth < cLine) (h : ∀ out, out.length = bs.length → EachIs R out (bs.mergeSort (dataLe false enc)) → Q (.ref (s.heap.objs.size + 1)) { s with heap := sortedAll s.heap vs (List.toArray out) }) :
    wpAny (model prog w) A (call (.builtin "sorted") [.ref l]) Q E s := by
  have er' : EachIs (fun v b => ∃ as, Reads (sortingHeap (copyHeap s.heap vs) (s.heap.objs.size + 1) vs) v (enc b) as) vs bs := er.mono fun _ _ ⟨as, r⟩ => ⟨as, PyProof.Rows.Reads.keeps (fun _ _ => sorting_copy_old) r⟩
  exact sorted_vals hl (SortsAt.can (s := { s with heap := sortingHeap (copyHeap s.heap vs) (s.heap.objs.size + 1) vs }) (each_map (R := fun v d => ∃ as, Reads (sortingHeap (copyHeap s.heap vs) (s.heap.objs.size + 1) vs) v d as) enc er') hal hk (bound_map hu)) (by rw [e.length]; exact hL)
    (h _ (by rw [sortVals_length false rfl]; exact e.length) (sortVals_data false e er' hal))
theorem sorted_canT {β : Type} {vs : List Value} {bs : List β} {enc : β → PyData} {R : Value → β → Prop} {l : Addr} {Q : Value → Shared → Prop} (hl : s.heap.IsTuple l vs.toArray) (e : EachIs R vs bs) (er : EachIs (fun v b => ∃ as, Reads s.heap v (enc b) as) vs bs) (hal : AllAlike (bs.map enc)) (hk : CanSort (bs.map enc)) (hL : bs.length ≤ sizeLine)
    (hu : ∀ b, b ∈ bs → A.units + 2 + (enc b).depth < cLine) (h : ∀ out, out.length = bs.length → EachIs R out (bs.mergeSort (dataLe false enc)) → Q (.ref (s.heap.objs.size + 1)) { s with heap := sortedAll s.heap vs (List.toArray out) }) :
    wpAny (model prog w) A (call (.builtin "sorted") [.ref l]) Q E s := by
  have er' : EachIs (fun v b => ∃ as, Reads (sortingHeap (copyHeap s.heap vs) (s.heap.objs.size + 1) vs) v (enc b) as) vs bs := er.mono fun _ _ ⟨as, r⟩ => ⟨as, PyProof.Rows.Reads.keeps (fun _ _ => sorting_copy_old) r⟩
  exact sorted_of_sortT hl (by rw [e.length]; exact hL) (args_sorted1 _) (fun _ => args_list_sort _) fun _ => list_sort_vals (s := { s with heap := copyHeap s.heap vs }) (copyHeap_at s.heap vs) (SortsAt.can (s := { s with heap := sortingHeap (copyHeap s.heap vs) (s.heap.objs.size + 1) vs }) (each_map (R := fun v d => ∃ as, Reads (sortingHeap (copyHeap s.heap vs) (s.heap.objs.size + 1) vs) v d as) enc er') hal hk (bound_map hu)) (by rw [e.length]; exact hL)
    ⟨rfl, h _ (by rw [sortVals_length false rfl]; exact e.length) (sortVals_data false e er' hal)⟩
end

/-! ### a tuple times a number -/
section
open PySem.Spec L2
theorem tuple_mulS (l : Addr) (items : Array Value) (n : Nat) (dd : Option Addr) (sl : Array (Option Value)) (x : Int) (u : Tok) (c0 : (decide (x < -(2 ^ 63)) || decide (x ≥ 2 ^ 63)) = false) (c1 : (items.isEmpty || x == 1) = true) :
    Meets (Builtin.«tuple.__mul__» ⟨[.ref l, .int x u], []⟩) (fun _ R s => s.heap.get? l = some { cls := .type "tuple", dict := dd, data := .seq items n, slots := sl } ∧ R (.ok (.ret (Value.ref l))) s) :=
  .of_wp fun prog w A R s h => by
    obtain ⟨hp, g, d, tk, os⟩ := s
    obtain ⟨hl, h⟩ := h
    have f1 := AutoSeq1.idx_int
    wp_walk using wpAny_loadPart' hl
    repeat (first
      | (refine wpAny_ite_false (decide_eq_false (by rw [c0]; exact Bool.false_ne_true)) ?_; wp_walk using wpAny_loadPart' hl)
      | (refine wpAny_ite_true (decide_eq_true c1) ?_; wp_walk using wpAny_loadPart' hl))
    exact ⟨_, rfl, h⟩
theorem tuple_mul0 (l : Addr) (items : Array Value) (n : Nat) (dd : Option Addr) (sl : Array (Option Value)) (x : Int) (u : Tok) (c0 : (decide (x < -(2 ^ 63)) || decide (x ≥ 2 ^ 63)) = false) (c1 : (items.isEmpty || x == 1) = false) (c2 : (decide (x ≤ 0) || items.isEmpty) = true) :
    Meets (Builtin.«tuple.__mul__» ⟨[.ref l, .int x u], []⟩) (fun _ R s => s.heap.get? l = some { cls := .type "tuple", dict := dd, data := .seq items n, slots := sl } ∧
      R (.ok (.ret (Value.ref s.heap.objs.size))) { s with heap := s.heap.push { cls := Value.type "tuple", data := Data.seq #[] }, toks := s.toks }) :=
  .of_wp fun prog w A R s h => by
    obtain ⟨hp, g, d, tk, os⟩ := s
    obtain ⟨hl, h⟩ := h
    have f1 := AutoSeq1.idx_int
    wp_walk using wpAny_loadPart' hl
    repeat (first
      | (refine wpAny_ite_false (decide_eq_false (by rw [c0]; exact Bool.false_ne_true)) ?_; wp_walk using wpAny_loadPart' hl)
      | (refine wpAny_ite_false (decide_eq_false (by rw [c1]; exact Bool.false_ne_true)) ?_; wp_walk using wpAny_loadPart' hl)
      | (refine wpAny_ite_true (decide_eq_true c2) ?_; wp_walk using wpAny_loadPart' hl))
    exact ⟨_, rfl, h⟩
def rRepA (K : PySem.W.Frag) : R2 := fun x y H Q => ∃ l k xs, x = .ref l ∧ y = .int k ∧ SqT K H l xs ∧ -1000 ≤ k ∧ k ≤ 1000 ∧ xs.length ≤ 1000 ∧ (xs = [] ∨ k = 1 → Q (.ref l) H) ∧
  (xs ≠ [] → k ≠ 1 → ∀ p, H p = none → Q (.ref p) (upd H p (.tup (List.replicate k.toNat xs).flatten)))
variable {X : Cx}
theorem op_repA : OpR X (binaryOp .Mult) (rRepA X.K) := by
  intro pins s σ H x y v u Q I rx ry h
  obtain ⟨l, k, xs, rfl, rfl, hT, h1, h2, hz, q1, q2⟩ := h
  by_cases hbig : xs ≠ [] ∧ 2 ≤ k
  · exact op_repT pins s σ H _ _ v u Q I rx ry ⟨l, k, xs, rfl, rfl, hT, hbig.1, hbig.2, h2, hz, q2 hbig.1 (by omega)⟩
  cases rx
  obtain ⟨t, rfl⟩ := ry
  obtain ⟨its, r, ⟨⟨cls, dd, data, sl⟩, ho, hc, n, hd⟩, hs⟩ := I.tuple hT
  simp only at hc hd
  subst hc hd
  have hle : its.length = xs.length := r.length.symm
  have c0 : (decide (k < -(2 ^ 63)) || decide (k ≥ 2 ^ 63)) = false := by
    rw [decide_eq_false (by omega), decide_eq_false (by omega)] <;> rfl
  have emp : its.toArray.isEmpty = true ↔ xs = [] := by
    cases its with
    | nil =>
      have : xs = [] := List.eq_nil_of_length_eq_zero hle.symm
      simp [this]
    | cons a b =>
      have : xs ≠ [] := fun e => by rw [e] at hle; simp at hle
      simp [this]
  have run : ∀ {R : Value → Shared → Prop}, wpAny (model X.prog X.w) X.A (call (.builtin "tuple.__mul__") [.ref l, .int k t]) R X.xe s → wpAny (model X.prog X.w) X.A (binaryOp .Mult (.ref l) (.int k t)) R X.xe s := fun {R} w =>
    wpAny_binaryOp_repeat_ref (T := "tuple") (U := "int") (by decide) ⟨_, ho, rfl⟩ (fun s' => typeIs_int s' k t) noFill_tuple_mul F.fills_int_mul F.slot_int_rmul repeat_tuple F.slot_int_index.lookup
      (call_meets F.slot_int_rmul (typeIs_int s k t) F.entry_int_rmul (F.args_int_rmul_2 _ _) (int_rmul_tuple k t l its.toArray n dd sl) ⟨ho, rfl, ⟨_, ho, rfl⟩, w⟩)
  by_cases hc1 : xs = [] ∨ k = 1
  · have c1 : (its.toArray.isEmpty || k == 1) = true := by
      rcases hc1 with h | h
      · rw [emp.mpr h]; rfl
      · subst h; rw [Bool.or_eq_true]; exact .inr rfl
    refine run (call_meets F.slot_tuple_mul ⟨_, ho, rfl⟩ F.entry_tuple_mul (F.args_tuple_mul_2 _ _) (tuple_mulS l its.toArray n dd sl k t c0 c1) ⟨ho, ?_⟩)
    exact ⟨.ref l, H, I, rfl, q1 hc1⟩
  · have hne : xs ≠ [] := fun e => hc1 (.inl e)
    have hk1 : k ≠ 1 := fun e => hc1 (.inr e)
    have hk0 : k ≤ 0 := by
      rcases Int.lt_or_le k 2 with h | h
      · omega
      · exact absurd ⟨hne, h⟩ hbig
    have e0 : its.toArray.isEmpty = false := by
      cases q : its.toArray.isEmpty with
      | false => rfl
      | true => exact absurd (emp.mp q) hne
    have c1 : (its.toArray.isEmpty || k == 1) = false := by
      rw [e0, Bool.false_or]; exact beq_eq_false_iff_ne.mpr hk1
    have c2 : (decide (k ≤ 0) || its.toArray.isEmpty) = true := by rw [decide_eq_true hk0]; rfl
    refine run (call_meets F.slot_tuple_mul ⟨_, ho, rfl⟩ F.entry_tuple_mul (F.args_tuple_mul_2 _ _) (tuple_mul0 l its.toArray n dd sl k t c0 c1 c2) ⟨ho, ?_⟩)
    have ek : k.toNat = 0 := by omega
    have q := q2 hne hk1 s.heap.objs.size (I.hok.fresh (Nat.le_refl _))
    rw [ek] at q
    refine ⟨.ref s.heap.objs.size, _, I.laid (t' := s.toks) (o := .tup []) (fun b ob q => Heap.get?_push_of_some _ q) (Nat.le_refl _) ?_, rfl, q⟩
    exact ⟨Nat.zero_le _, [], .nil, IsTup.new _ _⟩
def gRepT : G2 := fun v u _ => match v, u with
  | .tup xs, .int k => if decide (-1000 ≤ k) && decide (k ≤ 1000) && decide (xs.length ≤ 1000) then some (.tup (List.replicate k.toNat xs).flatten) else none
  | _, _ => none
theorem flat_reps {α : Type} : ∀ n : Nat, (List.replicate n ([] : List α)).flatten = []
  | 0 => rfl
  | n + 1 => by rw [List.replicate_succ, List.flatten_cons, flat_reps n]; rfl
theorem op2_repA {K : PySem.W.Frag} : Op2 K gRepT (rRepA K) := by
  intro F β S H v u x y z Q hr hv hu e k
  unfold gRepT at e
  split at e
  · rename_i xs n
    split at e
    · rename_i hcc
      cases e
      simp only [Bool.and_eq_true, decide_eq_true_eq] at hcc
      obtain ⟨⟨c1, c2⟩, c3⟩ := hcc
      obtain ⟨a, vs, rfl, h1, z1, r1⟩ := hv.tup
      rw [hu.int]
      refine ⟨a, n, vs, rfl, rfl, hr.le.sqT h1, c1, c2, by rw [← r1.length]; exact c3, fun hc => ?_, fun hne hk p hp => ?_⟩
      · have e0 : (List.replicate n.toNat xs).flatten = xs := by
          rcases hc with h | h
          · subst h
            have : xs = [] := List.eq_nil_of_length_eq_zero r1.length
            rw [this]; exact flat_reps _
          · subst h
            show ([xs] : List (List PV)).flatten = xs
            simp
        rw [e0] at k
        exact k F β H (Stp.refl F β H) hr _ ⟨a, vs, rfl, h1, z1, r1⟩
      · obtain ⟨n1, n2⟩ := hr.newF (o := .tup (List.replicate n.toNat vs).flatten) hp
        have hl : vs.length ≤ 1000 := by rw [← r1.length]; exact c3
        refine k _ β _ n2 n1 _ ⟨p, _, rfl, SqT.of upd_same, ?_, Rps.mono n2.mono n2.pre _ _ (r1.rep n.toNat)⟩
        rw [List.length_flatten, List.map_replicate, List.sum_replicate_nat, sizeLine_eq]
        have a1 : n.toNat * vs.length ≤ 1000 * 1000 := Nat.mul_le_mul (by omega) hl
        omega
    · cases e
  · cases e
def gMul : G2 := fun v u S => (gMulI v u S).or ((gRepL v u S).or (gRepT v u S))
variable {C : CC} {a b : Expr} {ma mb : Dn} {pos : Pos}
theorem sim_mul (hK : C.K = X.K) (ha : PE X a (rdB C ma)) (hb : PE X b (rdB C mb)) : PE X (.BinOp a .Mult b pos) (rd C (dOp2 gMul ma mb)) :=
  sim_bin (op_mulW.or (op_rep.or (hK ▸ op_repA : OpR X (binaryOp .Mult) (rRepA C.K)))) (op2_mulI.or (op2_repL.frz.or op2_repA)) ha hb
end
/-! ### the order of data, by values -/
mutual
def plt : PV → PV → Bool
  | .bl a, .bl b => decide (b2i a < b2i b)
  | .int i, .int j => decide (i < j)
  | .str x, .str y => decide (x.cps.toList < y.cps.toList)
  | .tup xs, .tup ys => plts xs ys
  | .lst xs, .lst ys => plts xs ys
  | _, _ => false
def plts : List PV → List PV → Bool
  | [], [] => false
  | [], _ :: _ => true
  | _ :: _, [] => false
  | x :: xs, y :: ys => if peqv x y = true then plts xs ys else plt x y
end
mutual
def pal : PV → PV → Bool
  | .bl _, .bl _ => true
  | .int _, .int _ => true
  | .str _, .str _ => true
  | .tup xs, .tup ys => pals xs ys
  | .lst xs, .lst ys => pals xs ys
  | _, _ => false
def pals : List PV → List PV → Bool
  | x :: xs, y :: ys => pal x y && pals xs ys
  | [], _ => true
  | _ :: _, [] => true
end
mutual
theorem pal_ok : ∀ v u : PV, shp v = true → shp u = true → pal v u = true → alike (toD v) (toD u) = true ∧ dataLt (toD v) (toD u) = plt v u
  | .bl a, u, _, _, h => by
    cases u with
    | bl b => exact ⟨rfl, dataLt_bool a b⟩
    | _ => cases h
  | .int a, u, _, _, h => by
    cases u with
    | int b => exact ⟨rfl, dataLt_int a b⟩
    | _ => cases h
  | .str a, u, _, _, h => by
    cases u with
    | str b => exact ⟨rfl, dataLt_str a b⟩
    | _ => cases h
  | .tup xs, u, s1, s2, h => by
    cases u with
    | tup ys =>
      obtain ⟨h1, h2⟩ := pals_ok xs ys s1 s2 h
      exact ⟨by rw [toD, toD, alike]; exact h1, by rw [toD, toD, dataLt_tuple]; exact h2⟩
    | _ => cases h
  | .lst xs, u, s1, s2, h => by
    cases u with
    | lst ys =>
      obtain ⟨h1, h2⟩ := pals_ok xs ys s1 s2 h
      exact ⟨by rw [toD, toD, alike]; exact h1, by rw [toD, toD, dataLt_list]; exact h2⟩
    | _ => cases h
  | .non, u, _, _, h => by cases u <;> cases h
  | .ref _, u, _, _, h => by cases u <;> cases h
  | .scr _, u, _, _, h => by cases u <;> cases h
theorem pals_ok : ∀ xs ys : List PV, shps xs = true → shps ys = true → pals xs ys = true → alikeAll (toDs xs) (toDs ys) = true ∧ PyProof.Rows.lexLt itemOrd (keyToksAll (toDs xs)) (keyToksAll (toDs ys)) = plts xs ys
  | [], [], _, _, _ => ⟨by simp [toDs, alikeAll], by decide +kernel⟩
  | [], y :: ys, _, _, _ => ⟨by simp [toDs, alikeAll], by
    rw [toDs, toDs, keyToksAll, keyToksAll, lex_atom (by simp)]
    show _ = true
    decide +kernel⟩
  | x :: xs, [], _, _, _ => ⟨by simp [toDs, alikeAll], by
    rw [toDs, toDs, keyToksAll, keyToksAll, lex_atom (by simp)]
    show _ = false
    decide +kernel⟩
  | x :: xs, y :: ys, s1, s2, h => by
    simp only [shps, Bool.and_eq_true] at s1 s2
    obtain ⟨h1, h2⟩ := Bool.and_eq_true_iff.mp (show (pal x y && pals xs ys) = true from h)
    obtain ⟨a1, a2⟩ := pal_ok x y s1.1 s2.1 h1
    obtain ⟨b1, b2⟩ := pals_ok xs ys s1.2 s2.2 h2
    refine ⟨by rw [toDs, toDs, alikeAll, a1, b1]; rfl, ?_⟩
    rw [toDs, toDs, dataLt_cons a1, peqv_toD x y s1.1 s2.1, a2, b2]
    rfl
end
section
open PySem.Spec L2
def ordOk (v u : PV) : Bool := shp v && decide (dep v ≤ 60) && (shp u && decide (dep u ≤ 60)) && pal v u
def gOrd (f : PV → PV → Bool) : G2 := fun v u _ => if ordOk v u then some (.bl (f v u)) else none
def rOrdD (K : PySem.W.Frag) (f : PyData → PyData → Bool) : R2 := fun x y H Q => ∃ d d', Dp K H x d ∧ Dp K H y d' ∧ alike d d' = true ∧ d ≠ .none ∧ d.depth ≤ 60 ∧ Q (.bl (f d d')) H
variable {X : Cx}
theorem op_ordD {op : CmpOp} {f : PyData → PyData → Bool} (hop : ∀ {prog : Program} {w : World} {A : Around} {E : Value → Shared → Prop} {s : Shared} {a b : Value} {da db : PyData} {as bs : List Addr} {Q : Value → Shared → Prop}, Reads s.heap a da as → Reads s.heap b db bs → alike da db = true → da ≠ .none → A.units + min da.depth db.depth < cLine → Q (.bool (f da db)) s → wpAny (model prog w) A (compareOp op a b) Q E s)
    (hu : X.A.units + 65 < cLine) : OpR X (compareOp op) (rOrdD X.K f) := by
  intro pins s σ H x y v u Q I rx ry h
  obtain ⟨d, d', h1, h2, h3, h4, h5, q⟩ := h
  obtain ⟨as, r1⟩ := Dp.reads I d x v h1 rx
  obtain ⟨bs, r2⟩ := Dp.reads I d' y u h2 ry
  exact hop r1 r2 h3 h4 (by have := Nat.min_le_left d.depth d'.depth; omega) ⟨.bl _, H, I, rfl, q⟩
theorem op2_ordD {K : PySem.W.Frag} {f : PyData → PyData → Bool} {g : PV → PV → Bool} (hfg : ∀ v u, shp v = true → shp u = true → pal v u = true → f (toD v) (toD u) = g v u) : Op2 K (gOrd g) (rOrdD K f) := by
  intro F β S H v u x y z Q hr hv hu e k
  unfold gOrd at e
  split at e
  · rename_i hc
    cases e
    unfold ordOk at hc
    simp only [Bool.and_eq_true, decide_eq_true_eq] at hc
    obtain ⟨⟨⟨c1, c2⟩, c3, c4⟩, c5⟩ := hc
    obtain ⟨a1, a2⟩ := pal_ok v u c1 c3 c5
    refine ⟨_, _, hv.dp hr.le c1, hu.dp hr.le c3, a1, ?_, by rw [dep_toD v c1]; exact c2, ?_⟩
    · intro e0
      cases v with
      | non => cases u <;> cases c5
      | ref _ => cases c1
      | scr _ => cases c1
      | _ => rw [toD] at e0; cases e0
    · rw [hfg v u c1 c3 c5]
      exact k F β H (Stp.refl F β H) hr _ rfl
  · cases e
theorem pal_comm : ∀ v u, shp v = true → shp u = true → pal v u = true → dataLt (toD u) (toD v) = plt u v := fun v u s1 s2 h => by
  have ha := (pal_ok v u s1 s2 h).1
  have : pal u v = true := palc v u h
  exact (pal_ok u v s2 s1 this).2
where
  palc : ∀ v u : PV, pal v u = true → pal u v = true
  | .bl _, u, h => by cases u <;> first | rfl | cases h
  | .int _, u, h => by cases u <;> first | rfl | cases h
  | .str _, u, h => by cases u <;> first | rfl | cases h
  | .tup xs, u, h => by
    cases u with
    | tup ys => exact palsc xs ys h
    | _ => cases h
  | .lst xs, u, h => by
    cases u with
    | lst ys => exact palsc xs ys h
    | _ => cases h
  | .non, u, h => by cases u <;> cases h
  | .ref _, u, h => by cases u <;> cases h
  | .scr _, u, h => by cases u <;> cases h
  palsc : ∀ xs ys : List PV, pals xs ys = true → pals ys xs = true
  | [], [], _ => rfl
  | [], _ :: _, _ => rfl
  | _ :: _, [], _ => rfl
  | x :: xs, y :: ys, h => by
    obtain ⟨h1, h2⟩ := Bool.and_eq_true_iff.mp (show (pal x y && pals xs ys) = true from h)
    show (pal y x && pals ys xs) = true
    rw [palc x y h1, palsc xs ys h2]; rfl
def gLt : G2 := fun v u S => (gLtI v u S).or (gOrd plt v u S)
def gGt : G2 := fun v u S => (gGtI v u S).or (gOrd (fun a b => plt b a) v u S)
def gLe : G2 := fun v u S => (gLeI v u S).or (gOrd (fun a b => !plt b a) v u S)
def gGe : G2 := fun v u S => (gGeI v u S).or (gOrd (fun a b => !plt a b) v u S)
variable {C : CC}
theorem cmp_lt (hK : C.K = X.K) (hu : X.A.units + 65 < cLine) : CmpOk X C .Lt gLt := ⟨_, op_lt.or (hK ▸ op_ordD (f := fun a b => dataLt a b) (fun ra rb h hn hr q => PySem.W.lt_data ra rb h hn hr q) hu : OpR X (compareOp .Lt) (rOrdD C.K _)), Op2.or (op2_I0 fun _ _ _ _ => rfl) (op2_ordD fun v u a b c => (pal_ok v u a b c).2)⟩
theorem cmp_gt (hK : C.K = X.K) (hu : X.A.units + 65 < cLine) : CmpOk X C .Gt gGt := ⟨_, op_gt.or (hK ▸ op_ordD (f := fun a b => dataLt b a) (fun ra rb h hn hr q => PySem.W.gt_data ra rb h hn hr q) hu : OpR X (compareOp .Gt) (rOrdD C.K _)), Op2.or (op2_I0 fun _ _ _ _ => rfl) (op2_ordD fun v u a b c => pal_comm v u a b c)⟩
theorem cmp_le (hK : C.K = X.K) (hu : X.A.units + 65 < cLine) : CmpOk X C .LtE gLe := ⟨_, op_le.or (hK ▸ op_ordD (f := fun a b => !dataLt b a) (fun ra rb h hn hr q => PySem.W.le_data ra rb h hn hr q) hu : OpR X (compareOp .LtE) (rOrdD C.K _)), Op2.or (op2_I0 fun _ _ _ _ => rfl) (op2_ordD fun v u a b c => by rw [pal_comm v u a b c])⟩
theorem cmp_ge (hK : C.K = X.K) (hu : X.A.units + 65 < cLine) : CmpOk X C .GtE gGe := ⟨_, op_ge.or (hK ▸ op_ordD (f := fun a b => !dataLt a b) (fun ra rb h hn hr q => PySem.W.ge_data ra rb h hn hr q) hu : OpR X (compareOp .GtE) (rOrdD C.K _)), Op2.or (op2_I0 fun _ _ _ _ => rfl) (op2_ordD fun v u a b c => by rw [(pal_ok v u a b c).2])⟩
/-! ### sorted -/
theorem each_zip {h : Heap} {R : Value → PV × V → Prop} : ∀ {bs : List (PV × V)} {us : List Value}, Vals (bs.map (·.2)) us → (∀ p ∈ bs, ∀ u, RelV p.2 u → R u p) → EachIs R us bs
  | [], _, r, _ => by cases r; exact .nil
  | b :: bs, _, r, hR => by
    cases r with
    | cons r1 r2 => exact .cons (hR b List.mem_cons_self _ r1) (each_zip (h := h) r2 fun p hp => hR p (List.mem_cons_of_mem _ hp))
theorem vals_each : ∀ {bs : List (PV × V)} {us : List Value}, EachIs (fun u (p : PV × V) => RelV p.2 u) us bs → Vals (bs.map (·.2)) us
  | _, _, .nil => .nil
  | _, _, .cons h t => .cons h (vals_each t)
def rSortD (K : PySem.W.Frag) : List V → Hp → VK → Prop := fun xs H Q => ∃ (a : Addr) (bs : List (PV × V)), xs = [.ref a] ∧ (SqL K H a (bs.map (·.2)) ∨ SqT K H a (bs.map (·.2))) ∧ (∀ p ∈ bs, Dp K H p.2 (toD p.1) ∧ (toD p.1).depth ≤ 60) ∧ AllAlike (bs.map fun p => toD p.1) ∧ CanSort (bs.map fun p => toD p.1) ∧
  ∀ l, H l = none → Q (.ref l) (upd H l (.lst ((bs.mergeSort (dataLe false fun p => toD p.1)).map (·.2))))
theorem cr_sortD (hu : X.A.units + 65 < cLine) : CallR X (.builtin "sorted") (rSortD X.K) := by
  intro pins s σ H vs us Q I r h
  obtain ⟨a, bs, rfl, hs, hd, hal, hc, q⟩ := h
  rcases hs with hs | hs
  · obtain ⟨its, rv, hl, hz⟩ := I.list hs
    obtain ⟨u, rfl, ru⟩ := vals1 r
    obtain rfl : u = Value.ref a := ru
    have hlen : its.length = bs.length := by have := rv.length; rw [List.length_map] at this; exact this.symm
    refine sorted_can (R := fun u (p : PV × V) => RelV p.2 u) (bs := bs) hl.isList (each_zip (h := s.heap) rv fun p _ u ru => ru) (each_zip (h := s.heap) rv fun p hp u ru => ?_) hal hc (by rw [List.length_map] at hz; exact hz) (fun p hp => by have := (hd p hp).2; omega) fun out ho he => ?_
    · exact Dp.reads I _ _ _ (hd p hp).1 ru
    · have hk : ∀ b o, s.heap.get? b = some o → (sortedAll s.heap its (List.toArray out)).get? b = some o := fun b o e => sortedAll_old e
      have hat := sortedAll_at s.heap its (List.toArray out)
      obtain ⟨n, hn⟩ := hat
      refine ⟨.ref (s.heap.objs.size + 1), _, I.laid (t' := s.toks) (o := .lst ((bs.mergeSort (dataLe false fun p => toD p.1)).map (·.2))) hk (Nat.le_succ _) ⟨?_, out, n, vals_each he, hn⟩, rfl, q _ (I.hok.fresh (Nat.le_succ _))⟩
      rw [List.length_map, List.length_mergeSort]; rw [List.length_map] at hz; exact hz
  · obtain ⟨its, rv, hl, hz⟩ := I.tuple hs
    obtain ⟨u, rfl, ru⟩ := vals1 r
    obtain rfl : u = Value.ref a := ru
    have hlen : its.length = bs.length := by have := rv.length; rw [List.length_map] at this; exact this.symm
    refine sorted_canT (R := fun u (p : PV × V) => RelV p.2 u) (bs := bs) hl (each_zip (h := s.heap) rv fun p _ u ru => ru) (each_zip (h := s.heap) rv fun p hp u ru => ?_) hal hc (by rw [List.length_map] at hz; exact hz) (fun p hp => by have := (hd p hp).2; omega) fun out ho he => ?_
    · exact Dp.reads I _ _ _ (hd p hp).1 ru
    · have hk : ∀ b o, s.heap.get? b = some o → (sortedAll s.heap its (List.toArray out)).get? b = some o := fun b o e => sortedAll_old e
      have hat := sortedAll_at s.heap its (List.toArray out)
      obtain ⟨n, hn⟩ := hat
      refine ⟨.ref (s.heap.objs.size + 1), _, I.laid (t' := s.toks) (o := .lst ((bs.mergeSort (dataLe false fun p => toD p.1)).map (·.2))) hk (Nat.le_succ _) ⟨?_, out, n, vals_each he, hn⟩, rfl, q _ (I.hok.fresh (Nat.le_succ _))⟩
      rw [List.length_map, List.length_mergeSort]; rw [List.length_map] at hz; exact hz
def canSort (xs : List PV) : Bool := shps xs && decide (deps xs ≤ 60) && (xs.all fun x => xs.all fun y => pal x y) && ((xs.all fun x => match x with | .tup _ => true | _ => false) || (xs.all fun x => match x with | .tup _ => false | .non => false | _ => true))
theorem zip_of : ∀ {xs : List PV} {vs : List V}, xs.length = vs.length → (xs.zip vs).map (·.1) = xs ∧ (xs.zip vs).map (·.2) = vs := fun {xs vs} h => ⟨List.map_fst_zip (by omega), List.map_snd_zip (by omega)⟩
theorem shps_all : ∀ {xs : List PV}, shps xs = true → ∀ x ∈ xs, shp x = true
  | [], _, x, h => by cases h
  | y :: ys, e, x, h => by
    simp only [shps, Bool.and_eq_true] at e
    rcases List.mem_cons.mp h with rfl | h
    · exact e.1
    · exact shps_all e.2 x h
theorem deps_all : ∀ {xs : List PV} {n : Nat}, deps xs ≤ n → ∀ x ∈ xs, dep x ≤ n
  | [], _, _, x, h => by cases h
  | y :: ys, n, e, x, h => by
    have e : max (dep y) (deps ys) ≤ n := e
    rcases List.mem_cons.mp h with rfl | h
    · omega
    · exact deps_all (xs := ys) (by omega) x h
theorem Rps.zip_mem {K : PySem.W.Frag} {F : Hp} {β : List Addr} : ∀ {xs : List PV} {vs : List V}, Rps K F β xs vs → ∀ p ∈ xs.zip vs, Rp K F β p.1 p.2
  | [], _, h, p, hp => by cases h; cases hp
  | x :: xs, _, h, p, hp => by
    obtain ⟨v, r, rfl, h1, h2⟩ := h
    rw [List.zip_cons_cons] at hp
    rcases List.mem_cons.mp hp with rfl | hp
    · exact h1
    · exact Rps.zip_mem h2 p hp
theorem Rps.of_pairs {K : PySem.W.Frag} {F : Hp} {β : List Addr} : ∀ {bs : List (PV × V)}, (∀ p ∈ bs, Rp K F β p.1 p.2) → Rps K F β (bs.map (·.1)) (bs.map (·.2))
  | [], _ => rfl
  | b :: bs, h => ⟨_, _, rfl, h b List.mem_cons_self, Rps.of_pairs fun p hp => h p (List.mem_cons_of_mem _ hp)⟩
end
end Py
/-! Built-in calls. -/
namespace Py
open PySem PySem.Spec L2

abbrev G1 := PV → Store → Option PV
def Op1 (K : PySem.W.Frag) (g : G1) (r : List V → Hp → VK → Prop) : Prop := ∀ (F : Hp) (β : List Addr) (S : Store) (H : Hp) (v : PV) (x : V) (z : PV) (Q : VK), HRel K F β S H → RpB K F β H v x → g v S = some z →
  (∀ F' β' H', Stp F β H F' β' H' → HRel K F' β' S H' → ∀ w, Rp K F' β' z w → Q w H') → r [x] H Q
def Op1N (K : PySem.W.Frag) (g : G1) (r : List V → Hp → VK → Prop) : Prop := ∀ (F : Hp) (β : List Addr) (S : Store) (H : Hp) (v : PV) (x : V) (z : PV) (Q : VK), HRel K F β S H → RpB K F β H v x → g v S = some z →
  (∀ F' β' H', Stp F β H F' β' H' → HRel K F' β' S H' → ∀ a, H a = none → F' a = none → a ∉ β' → OwnAt K F' β' H' a z → Q (.ref a) H') → r [x] H Q
theorem Op1N.frz {K : PySem.W.Frag} {g : G1} {r : List V → Hp → VK → Prop} (h : Op1N K g r) : Op1 K g r := by
  intro F β S H v x z Q hr hv e k
  exact h F β S H v x z Q hr hv e fun F' β' H' s r' a h1 h2 h3 h4 => frz_one s r' h1 h2 h3 h4 k
def lift1 (g : G1) (v : PV) (S : Store) : Res PV := match g v S with
  | some z => .ok z S
  | none => .bad
def dOp1 (g : G1) (a : Dn) : Dn := fun ρ S => bnd (a ρ S) fun v S1 => lift1 g v S1
section
variable {X : Cx} {C : CC} {a b : Expr} {ma mb : Dn} {pos : Pos} {g : G1} {r : List V → Hp → VK → Prop}
theorem op1_core (ho : Op1 C.K g r) {σ : L2.St} {H : Hp} {Q : VK} (q : rd C (dOp1 g ma) σ H Q) : tCB r (tCons (rdB C ma) tNil) σ H Q := by
  obtain ⟨F, β, S, ρ, hr, er, s0, o⟩ := q
  refine ⟨F, β, S, ρ, hr, er, s0, o.bind.mono fun v S1 F1 β1 H1 s1 r1 o1 w rw => ?_⟩
  unfold lift1 at o1
  split at o1
  · rename_i z hz
    exact ho F1 β1 S1 H1 v w z Q r1 rw hz o1
  · exact o1.elim
theorem op1_coreN (ho : Op1N C.K g r) {σ : L2.St} {H : Hp} {Q : VK} (q : rdN C (dOp1 g ma) σ H Q) : tCB r (tCons (rdB C ma) tNil) σ H Q := by
  obtain ⟨F, β, S, ρ, hr, er, s0, o⟩ := q
  refine ⟨F, β, S, ρ, hr, er, s0, o.bind.mono fun v S1 F1 β1 H1 s1 r1 o1 w rw => ?_⟩
  unfold lift1 at o1
  split at o1
  · rename_i z hz
    exact ho F1 β1 S1 H1 v w z Q r1 rw hz fun F' β' H' s' r' p h1 h2 h3 h4 => o1 F' β' H' s' r' p (s1.fresh h1) h2 h3 h4
  · exact o1.elim
/-- not a starred item -/
def noStar : Expr → Bool
  | .Starred _ _ => false
  | _ => true
theorem star_cons {e : Expr} {es : List Expr} {env : PySem.Env} (h : noStar e = true) : starEach (e :: es) env = (false, eval e env) :: starEach es env := by
  cases e <;> first | rfl | (exact absurd h (by simp [noStar]))
theorem sim_callB1 {id : String} {x : Str} {p : Pos} (hc : CallR X (.builtin id) r) (ho : Op1 C.K g r) (hg : Gl X x) (hm : X.mg x = none) (hv : bootBuiltins x = some (.builtin id)) (ha : PE X a (rdB C ma)) (hs : noStar a = true) (hn : x ≠ "__name__") (hd : (x == ("__debug__" : Str)) = false) :
    PE X (.Call (.Name x p) [a] [] pos) (rd C (dOp1 g ma)) :=
  (pe_callB hc hg hm hv (pa_cons ha pa_nil (star_cons hs)) hn hd (star_cons hs) rfl).imp fun _ _ _ => op1_core ho
theorem sim_callT1 {id : String} {x : Str} {p : Pos} (hc : CallR X (.type id) r) (ho : Op1 C.K g r) (hg : Gl X x) (hm : X.mg x = none) (hv : bootBuiltins x = some (.type id)) (ha : PE X a (rdB C ma)) (hs : noStar a = true) (hn : x ≠ "__name__") (hd : (x == ("__debug__" : Str)) = false) :
    PE X (.Call (.Name x p) [a] [] pos) (rd C (dOp1 g ma)) :=
  (pe_callTy hc hg hm hv (pa_cons ha pa_nil (star_cons hs)) hn hd (star_cons hs) rfl).imp fun _ _ _ => op1_core ho
theorem sim_callT1N {id : String} {x : Str} {p : Pos} (hc : CallR X (.type id) r) (ho : Op1N C.K g r) (hg : Gl X x) (hm : X.mg x = none) (hv : bootBuiltins x = some (.type id)) (ha : PE X a (rdB C ma)) (hs : noStar a = true) (hn : x ≠ "__name__") (hd : (x == ("__debug__" : Str)) = false) :
    PE X (.Call (.Name x p) [a] [] pos) (rdN C (dOp1 g ma)) :=
  (pe_callTy hc hg hm hv (pa_cons ha pa_nil (star_cons hs)) hn hd (star_cons hs) rfl).imp fun _ _ _ => op1_coreN ho
end
/-! ### len -/
def gLen : G1 := fun v S => match v with
  | .tup xs => some (.int xs.length)
  | .lst xs => some (.int xs.length)
  | .str z => if z.length ≤ sz then some (.int z.length) else none
  | .ref n => match S[n]? with
    | some (.lst xs) => some (.int xs.length)
    | none => none
  | _ => none
section
variable {K : PySem.W.Frag}
theorem op1_len : Op1 K gLen (fun xs H Q => ∃ x n, xs = [x] ∧ LenV K x H n ∧ Q (.int n) H) := by
  intro F β S H v x z Q hr hv e k
  have go := k F β H (Stp.refl _ _ _) hr
  unfold gLen at e
  split at e
  · cases e
    obtain ⟨a, vs, rfl, h1, _, r1⟩ := hv.tup
    exact ⟨_, vs.length, rfl, .inr ⟨vs, hr.le.sqT h1, rfl⟩, by rw [← r1.length]; exact go _ rfl⟩
  · cases e
    obtain ⟨a, vs, rfl, h1, _, r1⟩ := hv.lst hr.le
    exact ⟨_, vs.length, rfl, .inl ⟨vs, SqL.of h1, rfl⟩, by rw [← r1.length]; exact go _ rfl⟩
  · rename_i zz
    split at e
    · rename_i hz
      cases e
      exact ⟨_, zz.length, rfl, by rw [hv.str]; exact ⟨by rw [← sz_eq]; exact hz, rfl⟩, go _ rfl⟩
    · cases e
  · rename_i n
    obtain ⟨a, ha, rfl⟩ := hv.ref
    split at e
    · rename_i xs hs
      cases e
      obtain ⟨vs, h1, _, r1⟩ := hr.box n _ a hs ha
      exact ⟨_, vs.length, rfl, .inl ⟨vs, SqL.of h1, rfl⟩, by rw [← r1.length]; exact go _ rfl⟩
    · cases e
  · cases e
/-! ### tuple, list -/
def gTuple : G1 := fun v S => match v with
  | .tup xs => some (.tup xs)
  | .lst xs => some (.tup xs)
  | .ref n => match S[n]? with
    | some (.lst xs) => some (.tup xs)
    | none => none
  | _ => none
theorem op1_tuple : Op1 K gTuple (fun xs H Q => ∃ p ys, xs = [.ref p] ∧ ((SqL K H p ys ∧ ∀ l, H l = none → Q (.ref l) (upd H l (.tup ys))) ∨ (SqT K H p ys ∧ Q (.ref p) H))) := by
  intro F β S H v x z Q hr hv e k
  have new : ∀ (xs : List PV) (vs : List V), z = .tup xs → Rps K F β xs vs → vs.length ≤ sizeLine → ∀ l, H l = none → Q (.ref l) (upd H l (.tup vs)) := fun xs vs ez r1 hz l hl => by
    subst ez
    obtain ⟨n1, n2⟩ := hr.newF (o := .tup vs) hl
    exact k _ _ _ n2 n1 _ ⟨l, vs, rfl, SqT.of upd_same, hz, Rps.mono n2.mono n2.pre _ _ r1⟩
  unfold gTuple at e
  split at e
  · cases e
    obtain ⟨a, vs, rfl, h1, hz, r1⟩ := hv.tup
    exact ⟨a, vs, rfl, .inr ⟨hr.le.sqT h1, k F β H (Stp.refl _ _ _) hr _ ⟨a, vs, rfl, h1, hz, r1⟩⟩⟩
  · cases e
    obtain ⟨a, vs, rfl, h1, hz, r1⟩ := hv.lst hr.le
    exact ⟨a, vs, rfl, .inl ⟨SqL.of h1, new _ vs rfl r1 hz⟩⟩
  · rename_i n
    obtain ⟨a, ha, rfl⟩ := hv.ref
    split at e
    · rename_i xs hs
      cases e
      obtain ⟨vs, h1, hz, r1⟩ := hr.box n _ a hs ha
      exact ⟨a, vs, rfl, .inl ⟨SqL.of h1, new _ vs rfl r1 hz⟩⟩
    · cases e
  · cases e
def gList : G1 := fun v S => match v with
  | .tup xs => some (.lst xs)
  | .lst xs => some (.lst xs)
  | .scr ns => some (.lst (ns.map .int))
  | .ref n => match S[n]? with
    | some (.lst xs) => some (.lst xs)
    | none => none
  | _ => none
theorem Rps.ints {F : Hp} {β : List Addr} : ∀ ns : List Int, Rps K F β (ns.map .int) (ns.map V.int)
  | [] => rfl
  | n :: ns => ⟨_, _, rfl, rfl, Rps.ints ns⟩
theorem op1_list : Op1N K gList (fun xs H Q => ∃ p ys, xs = [.ref p] ∧ (SqL K H p ys ∨ SqT K H p ys) ∧ ∀ l, H l = none → Q (.ref l) (upd H l (.lst ys))) := by
  intro F β S H v x z Q hr hv e k
  have new : ∀ (xs : List PV) (vs : List V), z = .lst xs → Rps K F β xs vs → vs.length ≤ sizeLine → ∀ l, H l = none → Q (.ref l) (upd H l (.lst vs)) := fun xs vs ez r1 hz l hl => by
    subst ez
    obtain ⟨n1, n2⟩ := hr.newO (o := .lst vs) hl
    exact k _ _ _ n2 n1 l hl (hr.fnone hl) (hr.notIn hl) ⟨vs, upd_same, hz, r1⟩
  unfold gList at e
  split at e
  · cases e
    obtain ⟨a, vs, rfl, h1, hz, r1⟩ := hv.tup
    exact ⟨a, vs, rfl, .inr (hr.le.sqT h1), new _ vs rfl r1 hz⟩
  · cases e
    obtain ⟨a, vs, rfl, h1, hz, r1⟩ := hv.lst hr.le
    exact ⟨a, vs, rfl, .inl (SqL.of h1), new _ vs rfl r1 hz⟩
  · rename_i ns
    cases e
    obtain ⟨a, rfl, h1, hz⟩ := hv.scr
    exact ⟨a, ns.map V.int, rfl, .inl (hr.le.sqL h1), new _ _ rfl (Rps.ints ns) (by rw [List.length_map]; exact hz)⟩
  · rename_i n
    obtain ⟨a, ha, rfl⟩ := hv.ref
    split at e
    · rename_i xs hs
      cases e
      obtain ⟨vs, h1, hz, r1⟩ := hr.box n _ a hs ha
      exact ⟨a, vs, rfl, .inl (SqL.of h1), new _ vs rfl r1 hz⟩
    · cases e
  · cases e
/-! ### numbers -/
def gAbs : G1 := fun v _ => match v with
  | .int i => some (.int (if i < 0 then -i else i))
  | _ => none
theorem op1_abs : Op1 K gAbs (fun xs H Q => ∃ i, xs = [.int i] ∧ Q (.int (if i < 0 then -i else i)) H) := by
  intro F β S H v x z Q hr hv e k
  unfold gAbs at e
  split at e
  · cases e
    exact ⟨_, by rw [hv.int], k F β H (Stp.refl _ _ _) hr _ rfl⟩
  · cases e
def gInt : G1 := fun v _ => match v with
  | .int i => some (.int i)
  | _ => none
theorem op1_int : Op1 K gInt (fun xs H Q => (∃ i, xs = [.int i] ∧ Q (.int i) H) ∨ ∃ k, xs = [.bl k] ∧ Q (.int (if k then 1 else 0)) H) := by
  intro F β S H v x z Q hr hv e k
  unfold gInt at e
  split at e
  · cases e
    exact .inl ⟨_, by rw [hv.int], k F β H (Stp.refl _ _ _) hr _ rfl⟩
  · cases e
def gStr : G1 := fun v _ => match v with
  | .int i => if i.natAbs < 2 ^ 1900 then some (.str (toString i)) else none
  | _ => none
theorem op1_str : Op1 K gStr (fun xs H Q => ∃ i, xs = [.int i] ∧ i.natAbs.log2 < 1920 ∧ Q (.str (toString i)) H) := by
  intro F β S H v x z Q hr hv e k
  unfold gStr at e
  split at e
  · rename_i i
    split at e
    · rename_i hz
      cases e
      refine ⟨_, by rw [hv.int], ?_, k F β H (Stp.refl _ _ _) hr _ rfl⟩
      by_cases h0 : i.natAbs = 0
      · rw [h0]; decide
      · exact Nat.lt_of_lt_of_le ((Nat.log2_lt h0).mpr hz) (by decide)
    · cases e
  · cases e
/-! ### lists of bools, of ints -/
def bools? : List PV → Option (List Bool)
  | [] => some []
  | .bl b :: r => (bools? r).map (b :: ·)
  | _ => none
def ints? : List PV → Option (List Int)
  | [] => some []
  | .int b :: r => (ints? r).map (b :: ·)
  | _ => none
theorem Rps.bools {F : Hp} {β : List Addr} : ∀ {xs : List PV} {vs : List V} {bs : List Bool}, Rps K F β xs vs → bools? xs = some bs → vs = bs.map V.bl
  | [], _, _, h, e => by cases h; cases e; rfl
  | x :: xs, _, bs, h, e => by
    obtain ⟨v, r, rfl, h1, h2⟩ := h
    cases x with
    | bl b =>
      cases q : bools? xs with
      | none => simp only [bools?, q] at e; cases e
      | some cs =>
        simp only [bools?, q, Option.map_some] at e
        cases e
        cases h1
        rw [Rps.bools h2 q]; rfl
    | _ => simp only [bools?] at e; cases e
theorem Rps.ints' {F : Hp} {β : List Addr} : ∀ {xs : List PV} {vs : List V} {bs : List Int}, Rps K F β xs vs → ints? xs = some bs → vs = bs.map V.int
  | [], _, _, h, e => by cases h; cases e; rfl
  | x :: xs, _, bs, h, e => by
    obtain ⟨v, r, rfl, h1, h2⟩ := h
    cases x with
    | int b =>
      cases q : ints? xs with
      | none => simp only [ints?, q] at e; cases e
      | some cs =>
        simp only [ints?, q, Option.map_some] at e
        cases e
        cases h1
        rw [Rps.ints' h2 q]; rfl
    | _ => simp only [ints?] at e; cases e
def gBools (f : List Bool → Bool) : G1 := fun v _ => match v with
  | .lst xs => (bools? xs).map fun bs => .bl (f bs)
  | _ => none
def gAll : G1 := gBools fun bs => bs.all id
def gAny : G1 := gBools fun bs => bs.any id
theorem op1_bools {f : List Bool → Bool} : Op1 K (gBools f) (fun vs H Q => ∃ (a : Addr) (bs : List Bool), vs = [V.ref a] ∧ SqL K H a (bs.map V.bl) ∧ Q (.bl (f bs)) H) := by
  intro F β S H v x z Q hr hv e k
  unfold gBools at e
  split at e
  · rename_i xs
    obtain ⟨a, vs, rfl, h1, _, r1⟩ := hv.lst hr.le
    cases q : bools? xs with
    | none => rw [q] at e; cases e
    | some bs =>
      rw [q] at e
      cases e
      exact ⟨a, bs, rfl, by rw [← r1.bools q]; exact SqL.of h1, k F β H (Stp.refl _ _ _) hr _ rfl⟩
  · cases e
def gSum : G1 := fun v _ => match v with
  | .lst xs => (ints? xs).map fun bs => .int bs.sum
  | _ => none
theorem op1_sum : Op1 K gSum (rSum K) := by
  intro F β S H v x z Q hr hv e k
  unfold gSum at e
  split at e
  · rename_i xs
    obtain ⟨a, vs, rfl, h1, _, r1⟩ := hv.lst hr.le
    cases q : ints? xs with
    | none => rw [q] at e; cases e
    | some bs =>
      rw [q] at e
      cases e
      exact ⟨a, bs, rfl, by rw [← r1.ints' q]; exact SqL.of h1, k F β H (Stp.refl _ _ _) hr _ rfl⟩
  · cases e
def maxL : List Int → Int
  | [] => 0
  | [x] => x
  | x :: y :: r => max x (maxL (y :: r))
def minL : List Int → Int
  | [] => 0
  | [x] => x
  | x :: y :: r => min x (minL (y :: r))
theorem maxL_spec : ∀ (l : List Int), 0 < l.length → maxL l ∈ l ∧ ∀ y ∈ l, y ≤ maxL l
  | [], h => by simp at h
  | [x], _ => by simp [maxL]
  | x :: y :: r, _ => by
    obtain ⟨h1, h2⟩ := maxL_spec (y :: r) (by simp)
    unfold maxL
    refine ⟨?_, fun z hz => ?_⟩
    · by_cases h : x ≤ maxL (y :: r)
      · rw [Int.max_eq_right h]; exact List.mem_cons_of_mem _ h1
      · rw [Int.max_eq_left (by omega)]; exact List.mem_cons_self
    · rcases List.mem_cons.mp hz with rfl | hz
      · exact Int.le_max_left _ _
      · exact Int.le_trans (h2 z hz) (Int.le_max_right _ _)
theorem minL_spec : ∀ (l : List Int), 0 < l.length → minL l ∈ l ∧ ∀ y ∈ l, minL l ≤ y
  | [], h => by simp at h
  | [x], _ => by simp [minL]
  | x :: y :: r, _ => by
    obtain ⟨h1, h2⟩ := minL_spec (y :: r) (by simp)
    unfold minL
    refine ⟨?_, fun z hz => ?_⟩
    · by_cases h : x ≤ minL (y :: r)
      · rw [Int.min_eq_left h]; exact List.mem_cons_self
      · rw [Int.min_eq_right (by omega)]; exact List.mem_cons_of_mem _ h1
    · rcases List.mem_cons.mp hz with rfl | hz
      · exact Int.min_le_left _ _
      · exact Int.le_trans (Int.min_le_right _ _) (h2 z hz)
def gMax : G1 := fun v _ => match v with
  | .lst xs => match ints? xs with
    | some (b :: bs) => some (.int (maxL (b :: bs)))
    | _ => none
  | _ => none
def gMin : G1 := fun v _ => match v with
  | .lst xs => match ints? xs with
    | some (b :: bs) => some (.int (minL (b :: bs)))
    | _ => none
  | _ => none
theorem op1_max : Op1 K gMax (rMax K) := by
  intro F β S H v x z Q hr hv e k
  unfold gMax at e
  split at e
  · rename_i xs
    obtain ⟨a, vs, rfl, h1, _, r1⟩ := hv.lst hr.le
    split at e
    · rename_i b bs q
      cases e
      refine ⟨a, b :: bs, rfl, by rw [← r1.ints' q]; exact SqL.of h1, by simp, fun m hm hle => ?_⟩
      obtain ⟨h2, h3⟩ := maxL_spec (b :: bs) (by simp)
      have : m = maxL (b :: bs) := Int.le_antisymm (h3 m hm) (hle _ h2)
      subst this
      exact k F β H (Stp.refl _ _ _) hr _ rfl
    · cases e
  · cases e
theorem op1_min : Op1 K gMin (rMin K) := by
  intro F β S H v x z Q hr hv e k
  unfold gMin at e
  split at e
  · rename_i xs
    obtain ⟨a, vs, rfl, h1, _, r1⟩ := hv.lst hr.le
    split at e
    · rename_i b bs q
      cases e
      refine ⟨a, b :: bs, rfl, by rw [← r1.ints' q]; exact SqL.of h1, by simp, fun m hm hle => ?_⟩
      obtain ⟨h2, h3⟩ := minL_spec (b :: bs) (by simp)
      have : m = minL (b :: bs) := Int.le_antisymm (hle _ h2) (h3 m hm)
      subst this
      exact k F β H (Stp.refl _ _ _) hr _ rfl
    · cases e
  · cases e
end
/-! ### sorted -/
section
open PySem.W
def gSorted : G1 := fun v _ => match v with
  | .lst xs => if canSort xs then some (.lst (xs.mergeSort fun a b => !plt b a)) else none
  | .tup xs => if canSort xs then some (.lst (xs.mergeSort fun a b => !plt b a)) else none
  | _ => none
theorem toDs_map : ∀ xs : List PV, toDs xs = xs.map toD
  | [] => rfl
  | x :: xs => by rw [toDs, toDs_map xs]; rfl
theorem op1_sorted {K : PySem.W.Frag} : Op1N K gSorted (rSortD K) := by
  intro F β S H v x z Q hr hv e k
  unfold gSorted at e
  split at e
  · rename_i xs
    split at e
    · rename_i hc
      cases e
      obtain ⟨a, vs, rfl, h1, hz, r1⟩ := hv.lst hr.le
      unfold canSort at hc
      simp only [Bool.and_eq_true, Bool.or_eq_true, decide_eq_true_eq, List.all_eq_true] at hc
      obtain ⟨⟨⟨c1, c2⟩, c3⟩, c4⟩ := hc
      obtain ⟨z1, z2⟩ := zip_of (xs := xs) (vs := vs) r1.length
      have memx : ∀ p ∈ xs.zip vs, p.1 ∈ xs := fun p hp => by rw [← z1]; exact List.mem_map.mpr ⟨p, hp, rfl⟩
      have hsh : ∀ p ∈ xs.zip vs, shp p.1 = true := fun p hp => shps_all c1 _ (memx p hp)
      refine ⟨a, xs.zip vs, rfl, by rw [z2]; exact .inl (SqL.of h1), fun p hp => ⟨Rp.dp hr.le _ _ (hsh p hp) (r1.zip_mem p hp), by rw [dep_toD _ (hsh p hp)]; exact deps_all c2 _ (memx p hp)⟩, ?_, ?_, fun l hl => ?_⟩
      · intro d hd d' hd'
        obtain ⟨p, hp, rfl⟩ := List.mem_map.mp hd
        obtain ⟨p', hp', rfl⟩ := List.mem_map.mp hd'
        exact (pal_ok _ _ (hsh p hp) (hsh p' hp') (c3 _ (memx p hp) _ (memx p' hp'))).1
      · rcases c4 with h | h
        · refine .inl fun d hd => ?_
          obtain ⟨p, hp, rfl⟩ := List.mem_map.mp hd
          have := h _ (memx p hp)
          split at this
          · rename_i ys e0; rw [e0]; exact ⟨_, rfl⟩
          · cases this
        · refine .inr fun d hd => ?_
          obtain ⟨p, hp, rfl⟩ := List.mem_map.mp hd
          have q := h _ (memx p hp)
          have q2 := hsh p hp
          revert q q2
          cases p.1 with
          | tup _ => exact fun q _ => nomatch q
          | non => exact fun q _ => nomatch q
          | ref _ => exact fun _ q => nomatch q
          | scr _ => exact fun _ q => nomatch q
          | _ => exact fun _ _ => ⟨(fun z => by rw [toD] at z; cases z), (fun ys z => by rw [toD] at z; cases z)⟩
      · obtain ⟨n1, n2⟩ := hr.newO (o := .lst (((xs.zip vs).mergeSort (dataLe false fun p => toD p.1)).map (·.2))) hl
        have perm := List.mergeSort_perm (xs.zip vs) (dataLe false fun p => toD p.1)
        have e1 : ((xs.zip vs).mergeSort (dataLe false fun p => toD p.1)).map (·.1) = xs.mergeSort fun a b => !plt b a := by
          have := List.map_mergeSort (r := dataLe false fun p : PV × V => toD p.1) (s := fun a b => !plt b a) (f := Prod.fst) (l := xs.zip vs) (fun a ha b hb => by
            rw [dataLe_eq]
            show (!dataLt (toD b.1) (toD a.1)) = !plt b.1 a.1
            rw [(pal_ok _ _ (hsh b hb) (hsh a ha) (c3 _ (memx b hb) _ (memx a ha))).2])
          rw [this]
          show (List.map (·.1) (xs.zip vs)).mergeSort _ = _
          rw [z1]
        refine k F β _ n2 n1 l hl (hr.fnone hl) (hr.notIn hl) ?_
        rw [← e1]
        refine ⟨_, upd_same, ?_, Rps.of_pairs fun p hp => r1.zip_mem p (perm.mem_iff.mp hp)⟩
        rw [List.length_map, perm.length_eq, List.length_zip]
        have := r1.length
        omega
    · cases e
  · rename_i xs
    split at e
    · rename_i hc
      cases e
      obtain ⟨a, vs, rfl, h1, hz, r1⟩ := hv.tup
      unfold canSort at hc
      simp only [Bool.and_eq_true, Bool.or_eq_true, decide_eq_true_eq, List.all_eq_true] at hc
      obtain ⟨⟨⟨c1, c2⟩, c3⟩, c4⟩ := hc
      obtain ⟨z1, z2⟩ := zip_of (xs := xs) (vs := vs) r1.length
      have memx : ∀ p ∈ xs.zip vs, p.1 ∈ xs := fun p hp => by rw [← z1]; exact List.mem_map.mpr ⟨p, hp, rfl⟩
      have hsh : ∀ p ∈ xs.zip vs, shp p.1 = true := fun p hp => shps_all c1 _ (memx p hp)
      refine ⟨a, xs.zip vs, rfl, by rw [z2]; exact .inr (hr.le.sqT h1), fun p hp => ⟨Rp.dp hr.le _ _ (hsh p hp) (r1.zip_mem p hp), by rw [dep_toD _ (hsh p hp)]; exact deps_all c2 _ (memx p hp)⟩, ?_, ?_, fun l hl => ?_⟩
      · intro d hd d' hd'
        obtain ⟨p, hp, rfl⟩ := List.mem_map.mp hd
        obtain ⟨p', hp', rfl⟩ := List.mem_map.mp hd'
        exact (pal_ok _ _ (hsh p hp) (hsh p' hp') (c3 _ (memx p hp) _ (memx p' hp'))).1
      · rcases c4 with h | h
        · refine .inl fun d hd => ?_
          obtain ⟨p, hp, rfl⟩ := List.mem_map.mp hd
          have := h _ (memx p hp)
          split at this
          · rename_i ys e0; rw [e0]; exact ⟨_, rfl⟩
          · cases this
        · refine .inr fun d hd => ?_
          obtain ⟨p, hp, rfl⟩ := List.mem_map.mp hd
          have q := h _ (memx p hp)
          have q2 := hsh p hp
          revert q q2
          cases p.1 with
          | tup _ => exact fun q _ => nomatch q
          | non => exact fun q _ => nomatch q
          | ref _ => exact fun _ q => nomatch q
          | scr _ => exact fun _ q => nomatch q
          | _ => exact fun _ _ => ⟨(fun z => by rw [toD] at z; cases z), (fun ys z => by rw [toD] at z; cases z)⟩
      · obtain ⟨n1, n2⟩ := hr.newO (o := .lst (((xs.zip vs).mergeSort (dataLe false fun p => toD p.1)).map (·.2))) hl
        have perm := List.mergeSort_perm (xs.zip vs) (dataLe false fun p => toD p.1)
        have e1 : ((xs.zip vs).mergeSort (dataLe false fun p => toD p.1)).map (·.1) = xs.mergeSort fun a b => !plt b a := by
          have := List.map_mergeSort (r := dataLe false fun p : PV × V => toD p.1) (s := fun a b => !plt b a) (f := Prod.fst) (l := xs.zip vs) (fun a ha b hb => by
            rw [dataLe_eq]
            show (!dataLt (toD b.1) (toD a.1)) = !plt b.1 a.1
            rw [(pal_ok _ _ (hsh b hb) (hsh a ha) (c3 _ (memx b hb) _ (memx a ha))).2])
          rw [this]
          show (List.map (·.1) (xs.zip vs)).mergeSort _ = _
          rw [z1]
        refine k F β _ n2 n1 l hl (hr.fnone hl) (hr.notIn hl) ?_
        rw [← e1]
        refine ⟨_, upd_same, ?_, Rps.of_pairs fun p hp => r1.zip_mem p (perm.mem_iff.mp hp)⟩
        rw [List.length_map, perm.length_eq, List.length_zip]
        have := r1.length
        omega
    · cases e
  · cases e
end
/-- a built-in function of one argument -/
def B1Ok (X : Cx) (C : CC) (x : Str) (g : G1) : Prop := (∃ id r, CallR X (.builtin id) r ∧ Op1 C.K g r ∧ bootBuiltins x = some (.builtin id)) ∨ (∃ id r, CallR X (.type id) r ∧ Op1 C.K g r ∧ bootBuiltins x = some (.type id))
def B1OkN (X : Cx) (C : CC) (x : Str) (g : G1) : Prop := ∃ id r, CallR X (.type id) r ∧ Op1N C.K g r ∧ bootBuiltins x = some (.type id)
section
variable {X : Cx} {C : CC} {a b : Expr} {ma mb : Dn} {pos p : Pos} {g : G1} {x : Str}
theorem sim_b1 (h : B1Ok X C x g) (hg : Gl X x) (hm : X.mg x = none) (ha : PE X a (rdB C ma)) (hs : noStar a = true) (hn : x ≠ "__name__") (hd : (x == ("__debug__" : Str)) = false) : PE X (.Call (.Name x p) [a] [] pos) (rd C (dOp1 g ma)) := by
  rcases h with ⟨id, r, h1, h2, h3⟩ | ⟨id, r, h1, h2, h3⟩
  · exact sim_callB1 h1 h2 hg hm h3 ha hs hn hd
  · exact sim_callT1 h1 h2 hg hm h3 ha hs hn hd
theorem sim_b1N (h : B1OkN X C x g) (hg : Gl X x) (hm : X.mg x = none) (ha : PE X a (rdB C ma)) (hs : noStar a = true) (hn : x ≠ "__name__") (hd : (x == ("__debug__" : Str)) = false) : PE X (.Call (.Name x p) [a] [] pos) (rdN C (dOp1 g ma)) := by
  obtain ⟨id, r, h1, h2, h3⟩ := h
  exact sim_callT1N h1 h2 hg hm h3 ha hs hn hd
/-- the table of them -/
def b1 (x : Str) : Option G1 :=
  if x = "len" then some gLen else if x = "tuple" then some gTuple else if x = "list" then some gList else if x = "abs" then some gAbs else if x = "int" then some gInt else if x = "str" then some gStr
  else if x = "all" then some gAll else if x = "any" then some gAny else if x = "sum" then some gSum else if x = "max" then some gMax else if x = "min" then some gMin else if x = "sorted" then some gSorted else none
theorem b1_ok (hK : C.K = X.K) (hu : X.A.units + 65 < cLine) (hc : X.calm = true) (h : b1 x = some g) : B1Ok X C x g := by
  unfold b1 at h
  split at h
  · rename_i e; subst e; cases h; exact .inl ⟨"len", _, hK ▸ call_len, op1_len, boot_len⟩
  split at h
  · rename_i e; subst e; cases h; exact .inr ⟨"tuple", _, hK ▸ call_tuple_of, op1_tuple, by decide +kernel⟩
  split at h
  · rename_i e; subst e; cases h; exact .inr ⟨"list", _, hK ▸ call_list_of, op1_list.frz, by decide +kernel⟩
  split at h
  · rename_i e; subst e; cases h; exact .inl ⟨"abs", _, call_abs, op1_abs, by decide +kernel⟩
  split at h
  · rename_i e; subst e; cases h; exact .inr ⟨"int", _, call_int1, op1_int, by decide +kernel⟩
  split at h
  · rename_i e; subst e; cases h; exact .inr ⟨"str", _, call_str_int, op1_str, by decide +kernel⟩
  split at h
  · rename_i e; subst e; cases h; exact .inl ⟨"all", _, hK ▸ cr_all hc, op1_bools, by decide +kernel⟩
  split at h
  · rename_i e; subst e; cases h; exact .inl ⟨"any", _, hK ▸ cr_any hc, op1_bools, by decide +kernel⟩
  split at h
  · rename_i e; subst e; cases h; exact .inl ⟨"sum", _, hK ▸ cr_sum hc, op1_sum, by decide +kernel⟩
  split at h
  · rename_i e; subst e; cases h; exact .inl ⟨"max", _, hK ▸ cr_max hc, op1_max, by decide +kernel⟩
  split at h
  · rename_i e; subst e; cases h; exact .inl ⟨"min", _, hK ▸ cr_min hc, op1_min, by decide +kernel⟩
  split at h
  · rename_i e; subst e; cases h; exact .inl ⟨"sorted", _, hK ▸ cr_sortD hu, op1_sorted.frz, by decide +kernel⟩
  · cases h
theorem list_ok (hK : C.K = X.K) : B1OkN X C "list" gList := ⟨"list", _, hK ▸ call_list_of, op1_list, by decide +kernel⟩
end
end Py
/-! Calls of defs; statements. -/
namespace Py
open PySem PySem.Spec L2

/-! ### calls -/
/-- what a def promises: what g tells -/
def spSim (K : PySem.W.Frag) (errC : Err → Addr) (n : Nat) (g : List PV → Store → Res PV) : Sp := fun vs H Q E => vs.length = n ∧ ∃ F β S args, HRel K F β S H ∧ Rps K F β args vs ∧
  match g args S with
  | .ok v S' => ∀ F' β' H', Stp F β H F' β' H' → HRel K F' β' S' H' → ∀ w, Rp K F' β' v w → Q w H'
  | .exc e S' => ∀ F' β' H', Stp F β H F' β' H' → HRel K F' β' S' H' → E (.ref (errC e)) none H'
  | .bad => False
def dCall (g : List PV → Store → Res PV) (ms : Dna) : Dn := fun ρ S => bnd (ms ρ S) fun vs S1 => g vs S1
section
variable {X : Cx} {C : CC}
theorem call_core {n : Nat} {g : List PV → Store → Res PV} (hg : ∀ args S, args.length ≠ n → g args S = .bad) {ms : Dna} {σ : L2.St} {H : Hp} {Q : VK} (q : rd C (dCall g ms) σ H Q) : tCallS (spSim C.K C.errC n g) (WE C.W) (rdA C ms) σ H Q := by
  obtain ⟨F, β, S, ρ, hr, er, s0, o⟩ := q
  refine ⟨F, β, S, ρ, hr, er, s0, o.bind.mono fun vs S1 F1 β1 H1 s1 r1 o1 ws rw => ?_⟩
  refine ⟨?_, F1, β1, S1, vs, r1, rw, ?_⟩
  · by_cases h : vs.length = n
    · rw [← rw.length]; exact h
    · rw [hg vs S1 h] at o1; exact o1.elim
  · cases e : g vs S1 with
    | ok v S' => rw [e] at o1; exact o1
    | exc er S' => rw [e] at o1; exact o1
    | bad => rw [e] at o1; exact o1
theorem sim_call {k n : Nat} {f : Addr} {fd : FuncData} {ps : List Str} {x : Str} {p pos : Pos} {e : Expr} {es : List Expr} {g : List PV → Store → Res PV} {ms : Dna} (hgl : ∀ args S, args.length ≠ n → g args S = .bad)
    (F : FnOk X.prog X.w X.K X.mg X.base (L2.CX X.prog X.w) k f fd ps (spSim C.K C.errC n g)) (hr : Room k X.A) (hg : Gl X x) (hm : X.mg x = some (.ref f)) (hk : PySem.W.keepIn X.K (.ref f) = true) (hb : Binds X.K fd ps []) (tk : Takes X C.W)
    (ha : PA X (e :: es) (rdA C ms)) (hdb : (x == ("__debug__" : Str)) = false) (he : starEach (e :: es) X.env = (false, eval e X.env) :: starEach es X.env) (hpl : (backTo pos (starEach es X.env)).any (·.1) = false) :
    PE X (.Call (.Name x p) (e :: es) [] pos) (rd C (dCall g ms)) := (pe_callS F hr hg hm hk hb (fun σ => passAt tk σ) ha hdb he hpl).imp fun _ _ _ => call_core hgl
end

/-! ### statements -/
inductive Flo where
  | nx (ρ : Env) (S : Store) | ret (v : PV) (S : Store) | brk (ρ : Env) (S : Store) | ct (ρ : Env) (S : Store) | exc (e : Err) (ρ : Env) (S : Store) | bad
abbrev Dns := Env → Store → Flo
structure SR (C : CC) (F : Hp) (β : List Addr) (F' : Hp) (β' : List Addr) (S' : Store) (ρ' : Env) (H' : Hp) (σ' : L2.St) : Prop where
  mono : FLe F F'
  pre : β <+: β'
  hr : HRel C.K F' β' S' H'
  er : ERel C.K F' β' C.H0 C.xA H' ρ' σ'
  s0 : Stp C.F0 C.B0 C.H0 F' β' H'
def OutS (C : CC) (F : Hp) (β : List Addr) (fl : Flo) (D : Ends) : Prop := match fl with
  | .nx ρ' S' => ∀ F' β' H' σ', SR C F β F' β' S' ρ' H' σ' → D.nx σ' H'
  | .brk ρ' S' => ∀ F' β' H' σ', SR C F β F' β' S' ρ' H' σ' → D.bk σ' H'
  | .ct ρ' S' => ∀ F' β' H' σ', SR C F β F' β' S' ρ' H' σ' → D.ct σ' H'
  | .ret v S' => ∀ F' β' H', FLe F F' → β <+: β' → HRel C.K F' β' S' H' → Stp C.F0 C.B0 C.H0 F' β' H' → ∀ w, Rp C.K F' β' v w → D.rt w H'
  | .exc e ρ' S' => ∀ F' β' H' σ', SR C F β F' β' S' ρ' H' σ' → C.W (.ref (C.errC e)) none σ' H'
  | .bad => False
def rdS (C : CC) (m : Dns) : TS := fun D σ H => ∃ F β S ρ, HRel C.K F β S H ∧ ERel C.K F β C.H0 C.xA H ρ σ ∧ Stp C.F0 C.B0 C.H0 F β H ∧ OutS C F β (m ρ S) D
theorem SR.later {C : CC} {F F1 F' : Hp} {β β1 β' : List Addr} {S' : Store} {ρ' : Env} {H' : Hp} {σ' : L2.St} (l : FLe F F1) (p : β <+: β1) (s : SR C F1 β1 F' β' S' ρ' H' σ') : SR C F β F' β' S' ρ' H' σ' :=
  ⟨l.trans s.mono, List.IsPrefix.trans p s.pre, s.hr, s.er, s.s0⟩
theorem OutS.later {C : CC} {F F1 : Hp} {β β1 : List Addr} {fl : Flo} {D : Ends} (l : FLe F F1) (p : β <+: β1) (h : OutS C F β fl D) : OutS C F1 β1 fl D := by
  cases fl with
  | nx ρ S => exact fun F' β' H' σ' s => h F' β' H' σ' (s.later l p)
  | brk ρ S => exact fun F' β' H' σ' s => h F' β' H' σ' (s.later l p)
  | ct ρ S => exact fun F' β' H' σ' s => h F' β' H' σ' (s.later l p)
  | ret v S => exact fun F' β' H' l' p' => h F' β' H' (l.trans l') (List.IsPrefix.trans p p')
  | exc e ρ S => exact fun F' β' H' σ' s => h F' β' H' σ' (s.later l p)
  | bad => exact h
def dSeq (a b : Dns) : Dns := fun ρ S => match a ρ S with
  | .nx ρ' S' => b ρ' S'
  | .ret v S' => .ret v S'
  | .brk ρ' S' => .brk ρ' S'
  | .ct ρ' S' => .ct ρ' S'
  | .exc e ρ' S' => .exc e ρ' S'
  | .bad => .bad
def dSkip : Dns := fun ρ S => .nx ρ S
/-- an expression, then what is done with its value -/
def sB (m : Dn) (k : PV → Dns) : Dns := fun ρ S => match m ρ S with
  | .ok v S1 => k v ρ S1
  | .exc e S1 => .exc e ρ S1
  | .bad => .bad
section
variable {X : Cx} {C : CC} {st : Stmt} {rest : List Stmt} {m m' : Dns}
theorem simS_nil : PSs X [] (rdS C dSkip) := pss_nil.imp fun D σ H q => by
  obtain ⟨F, β, S, ρ, hr, er, s0, o⟩ := q
  exact o F β H σ ⟨FLe.refl F, List.prefix_refl β, hr, er, s0⟩
theorem simS_cons (h : PS X st (rdS C m)) (h' : PSs X rest (rdS C m')) : PSs X (st :: rest) (rdS C (dSeq m m')) := (pss_cons h h').imp fun D σ H q => by
  obtain ⟨F, β, S, ρ, hr, er, s0, o⟩ := q
  refine ⟨F, β, S, ρ, hr, er, s0, ?_⟩
  unfold dSeq at o
  cases e : m ρ S with
  | nx ρ' S' =>
    rw [e] at o
    exact fun F' β' H' σ' s => ⟨F', β', S', ρ', s.hr, s.er, s.s0, o.later s.mono s.pre⟩
  | ret v S' => rw [e] at o; exact o
  | brk ρ' S' => rw [e] at o; exact o
  | ct ρ' S' => rw [e] at o; exact o
  | exc er ρ' S' => rw [e] at o; exact o
  | bad => rw [e] at o; exact o
theorem sB_rd {e : Dn} {k : PV → Dns} {D : Ends} {σ : L2.St} {H : Hp} (q : rdS C (sB e k) D σ H) : rd C e σ H fun w H1 => ∃ F1 β1 S1 ρ v, HRel C.K F1 β1 S1 H1 ∧ ERel C.K F1 β1 C.H0 C.xA H1 ρ σ ∧ Stp C.F0 C.B0 C.H0 F1 β1 H1 ∧ Rp C.K F1 β1 v w ∧ OutS C F1 β1 (k v ρ S1) D := by
  obtain ⟨F, β, S, ρ, hr, er, s0, o⟩ := q
  refine ⟨F, β, S, ρ, hr, er, s0, ?_⟩
  unfold sB at o
  cases ee : e ρ S with
  | ok v S1 =>
    rw [ee] at o
    exact fun F1 β1 H1 s1 r1 w rw => ⟨F1, β1, S1, ρ, v, r1, er.step s1, s0.trans hr s1, rw, o.later s1.mono s1.pre⟩
  | exc er' S1 =>
    rw [ee] at o
    exact fun F1 β1 H1 s1 r1 => o F1 β1 H1 σ ⟨s1.mono, s1.pre, r1, er.step s1, s0.trans hr s1⟩
  | bad => rw [ee] at o; exact o
theorem sB_rdB {e : Dn} {k : PV → Dns} {D : Ends} {σ : L2.St} {H : Hp} (q : rdS C (sB e k) D σ H) : rdB C e σ H fun w H1 => ∃ F1 β1 S1 ρ v, HRel C.K F1 β1 S1 H1 ∧ ERel C.K F1 β1 C.H0 C.xA H1 ρ σ ∧ Stp C.F0 C.B0 C.H0 F1 β1 H1 ∧ RpB C.K F1 β1 H1 v w ∧ OutS C F1 β1 (k v ρ S1) D := by
  obtain ⟨F, β, S, ρ, hr, er, s0, o⟩ := q
  refine ⟨F, β, S, ρ, hr, er, s0, ?_⟩
  unfold sB at o
  cases ee : e ρ S with
  | ok v S1 =>
    rw [ee] at o
    exact fun F1 β1 H1 s1 r1 w rw => ⟨F1, β1, S1, ρ, v, r1, er.step s1, s0.trans hr s1, rw, o.later s1.mono s1.pre⟩
  | exc er' S1 =>
    rw [ee] at o
    exact fun F1 β1 H1 s1 r1 => o F1 β1 H1 σ ⟨s1.mono, s1.pre, r1, er.step s1, s0.trans hr s1⟩
  | bad => rw [ee] at o; exact o
theorem sB_rdT {e : Dn} {k : PV → Dns} (hk : ∀ v ρ S, (∀ b, v ≠ .bl b) → k v ρ S = .bad) {D : Ends} {σ : L2.St} {H : Hp} (q : rdS C (sB e k) D σ H) : rdT C e σ H fun b H1 => ∃ F1 β1 S1 ρ, HRel C.K F1 β1 S1 H1 ∧ ERel C.K F1 β1 C.H0 C.xA H1 ρ σ ∧ Stp C.F0 C.B0 C.H0 F1 β1 H1 ∧ OutS C F1 β1 (k (.bl b) ρ S1) D := by
  obtain ⟨F, β, S, ρ, hr, er, s0, o⟩ := q
  refine ⟨F, β, S, ρ, hr, er, s0, ?_⟩
  unfold sB at o
  cases ee : e ρ S with
  | ok v S1 =>
    rw [ee] at o
    intro F1 β1 H1 s1 r1
    by_cases hb : ∃ b, v = .bl b
    · obtain ⟨b, rfl⟩ := hb
      exact ⟨b, rfl, F1, β1, S1, ρ, r1, er.step s1, s0.trans hr s1, o.later s1.mono s1.pre⟩
    · have z := hk v ρ S1 (fun b e => hb ⟨b, e⟩)
      have o : OutS C F β (k v ρ S1) D := o
      rw [z] at o
      exact o.elim
  | exc er' S1 =>
    rw [ee] at o
    exact fun F1 β1 H1 s1 r1 => o F1 β1 H1 σ ⟨s1.mono, s1.pre, r1, er.step s1, s0.trans hr s1⟩
  | bad => rw [ee] at o; exact o
theorem sB_rdN {e : Dn} {k : PV → Dns} {D : Ends} {σ : L2.St} {H : Hp} (q : rdS C (sB e k) D σ H) : rdN C e σ H fun w H1 => ∃ F1 β1 S1 ρ v a, w = .ref a ∧ HRel C.K F1 β1 S1 H1 ∧ ERel C.K F1 β1 C.H0 C.xA H1 ρ σ ∧ Stp C.F0 C.B0 C.H0 F1 β1 H1 ∧ F1 a = none ∧ a ∉ β1 ∧ C.H0 a = none ∧ OwnAt C.K F1 β1 H1 a v ∧
    (∃ α : Nat → Addr, (∀ (i : Nat) (v : PV), ρ[i]? = some (.ow v) → σ[i]? = some (some (.ref (α i))) ∧ F1 (α i) = none ∧ α i ∉ β1 ∧ C.H0 (α i) = none ∧ OwnAt C.K F1 β1 H1 (α i) v ∧ α i ≠ a) ∧ ∀ (i j : Nat) (v v' : PV), ρ[i]? = some (.ow v) → ρ[j]? = some (.ow v') → α i = α j → i = j) ∧
    OutS C F1 β1 (k v ρ S1) D := by
  obtain ⟨F, β, S, ρ, hr, er, s0, o⟩ := q
  refine ⟨F, β, S, ρ, hr, er, s0, ?_⟩
  unfold sB at o
  cases ee : e ρ S with
  | ok v S1 =>
    rw [ee] at o
    intro F1 β1 H1 s1 r1 a h1 h2 h3 h4
    refine ⟨F1, β1, S1, ρ, v, a, rfl, r1, er.step s1, s0.trans hr s1, h2, h3, s0.fresh h1, h4, ?_, o.later s1.mono s1.pre⟩
    obtain ⟨α, w1, w2⟩ := er.ow
    refine ⟨α, fun i u hi => ?_, w2⟩
    obtain ⟨q1, q2, q3, q4, q5⟩ := w1 i u hi
    obtain ⟨ob, hob⟩ := q5.get
    obtain ⟨t1, t2⟩ := s1.sep _ _ hob q2 q3
    exact ⟨q1, t1, t2, q4, q5.mono s1.mono s1.pre (fun u hu => s1.keep _ _ hu q3), ne_of_none hob h1⟩
  | exc er' S1 =>
    rw [ee] at o
    exact fun F1 β1 H1 s1 r1 => o F1 β1 H1 σ ⟨s1.mono, s1.pre, r1, er.step s1, s0.trans hr s1⟩
  | bad => rw [ee] at o; exact o

/-! ### names set -/
theorem ERel.set {xA : Addr} {K : PySem.W.Frag} {F H0 H : Hp} {β : List Addr} {ρ : Env} {σ : L2.St} (e : ERel K F β H0 xA H ρ σ) {i : Nat} {v : PV} {w : V} (r : Rp K F β v w) : ERel K F β H0 xA H (ρ.set i (.fz v)) (σ.set i (some w)) where
  len := by rw [List.length_set, List.length_set]; exact e.len
  fz := fun j u h => by
    by_cases hij : i = j
    · subst hij
      have hl : i < ρ.length := by
        have := (List.getElem?_eq_some_iff.mp h).1
        rwa [List.length_set] at this
      rw [List.getElem?_set_self hl] at h
      cases h
      exact ⟨w, by rw [List.getElem?_set_self (by rw [← e.len]; exact hl)], r⟩
    · rw [List.getElem?_set_ne hij] at h ⊢
      exact e.fz j u h
  ow := by
    obtain ⟨α, h1, h2⟩ := e.ow
    have old : ∀ (j : Nat) (u : PV), (ρ.set i (.fz v))[j]? = some (.ow u) → ρ[j]? = some (.ow u) ∧ i ≠ j := fun j u h => by
      by_cases hij : i = j
      · subst hij
        have hl : i < ρ.length := by
          have := (List.getElem?_eq_some_iff.mp h).1
          rwa [List.length_set] at this
        rw [List.getElem?_set_self hl] at h
        cases h
      · rw [List.getElem?_set_ne hij] at h
        exact ⟨h, hij⟩
    refine ⟨α, fun j u h => ?_, fun j k u u' h h' => h2 j k u u' (old j u h).1 (old k u' h').1⟩
    obtain ⟨q1, q2, q3, q4, q5⟩ := h1 j u (old j u h).1
    exact ⟨by rw [List.getElem?_set_ne (old j u h).2]; exact q1, q2, q3, q4, q5⟩
  ex := fun j h => by
    by_cases hij : i = j
    · subst hij
      rw [List.getElem?_set_self (by have := (List.getElem?_eq_some_iff.mp h).1; rwa [List.length_set] at this)] at h
      cases h
    · rw [List.getElem?_set_ne hij] at h ⊢
      exact e.ex j h
theorem ERel.setO {xA : Addr} {K : PySem.W.Frag} {F H0 H : Hp} {β : List Addr} {ρ : Env} {σ : L2.St} (e : ERel K F β H0 xA H ρ σ) {i : Nat} {v : PV} {a : Addr} (h1 : F a = none) (h2 : a ∉ β) (h3 : H0 a = none) (h4 : OwnAt K F β H a v)
    (ow : ∃ α : Nat → Addr, (∀ (i : Nat) (v : PV), ρ[i]? = some (.ow v) → σ[i]? = some (some (.ref (α i))) ∧ F (α i) = none ∧ α i ∉ β ∧ H0 (α i) = none ∧ OwnAt K F β H (α i) v ∧ α i ≠ a) ∧ ∀ (i j : Nat) (v v' : PV), ρ[i]? = some (.ow v) → ρ[j]? = some (.ow v') → α i = α j → i = j) :
    ERel K F β H0 xA H (ρ.set i (.ow v)) (σ.set i (some (.ref a))) where
  len := by rw [List.length_set, List.length_set]; exact e.len
  fz := fun j u h => by
    by_cases hij : i = j
    · subst hij
      have hl : i < ρ.length := by
        have := (List.getElem?_eq_some_iff.mp h).1
        rwa [List.length_set] at this
      rw [List.getElem?_set_self hl] at h
      cases h
    · rw [List.getElem?_set_ne hij] at h ⊢
      exact e.fz j u h
  ow := by
    obtain ⟨α, w1, w2⟩ := ow
    refine ⟨fun j => if j = i then a else α j, fun j u h => ?_, fun j k u u' h h' => ?_⟩
    · by_cases hij : j = i
      · subst hij
        have hl : j < ρ.length := by
          have := (List.getElem?_eq_some_iff.mp h).1
          rwa [List.length_set] at this
        rw [List.getElem?_set_self hl] at h
        cases h
        simp only [if_true]
        exact ⟨by rw [List.getElem?_set_self (by rw [← e.len]; exact hl)], h1, h2, h3, h4⟩
      · rw [List.getElem?_set_ne (Ne.symm hij)] at h
        simp only [if_neg hij]
        obtain ⟨q1, q2, q3, q4, q5, _⟩ := w1 j u h
        exact ⟨by rw [List.getElem?_set_ne (Ne.symm hij)]; exact q1, q2, q3, q4, q5⟩
    · by_cases hj : j = i
      · by_cases hk : k = i
        · intro _; rw [hj, hk]
        · rw [List.getElem?_set_ne (Ne.symm hk)] at h'
          simp only [if_pos hj, if_neg hk]
          exact fun z => absurd z.symm (w1 k u' h').2.2.2.2.2
      · rw [List.getElem?_set_ne (Ne.symm hj)] at h
        by_cases hk : k = i
        · simp only [if_neg hj, if_pos hk]
          exact fun z => absurd z (w1 j u h).2.2.2.2.2
        · rw [List.getElem?_set_ne (Ne.symm hk)] at h'
          simp only [if_neg hj, if_neg hk]
          exact w2 j k u u' h h'
  ex := fun j h => by
    by_cases hij : i = j
    · subst hij
      rw [List.getElem?_set_self (by have := (List.getElem?_eq_some_iff.mp h).1; rwa [List.length_set] at this)] at h
      cases h
    · rw [List.getElem?_set_ne hij] at h ⊢
      exact e.ex j h
/-- the place of a name that is stored -/
structure StoreAt (X : Cx) (x : Str) (i : Nat) : Prop where
  nd : X.N.Nodup
  at_ : X.N[i]? = some x
  loc : Loc X.env.scope x
  fn : X.fn x = true ∨ X.env.scope.names.lookup x = some .local
def dAsg (i : Nat) (m : Dn) : Dns := sB m fun v ρ S => .nx (ρ.set i (.fz v)) S
def dAsgO (i : Nat) (m : Dn) : Dns := sB m fun v ρ S => .nx (ρ.set i (.ow v)) S
variable {e : Expr} {me : Dn} {pos : Pos} {i : Nat} {x : Str}
theorem asg_core {D : Ends} {σ : L2.St} {H : Hp} (q : rdS C (dAsg i me) D σ H) : tAsg (rd C me) (gName i) D σ H := by
  obtain ⟨F, β, S, ρ, hr, er, s0, o⟩ := sB_rd q
  refine ⟨F, β, S, ρ, hr, er, s0, o.mono fun v S' F' β' H' _ _ k w rw => ?_⟩
  obtain ⟨F1, β1, S1, ρ1, v1, r1, e1, s1, p1, o1⟩ := k w rw
  exact o1 F1 β1 _ _ ⟨FLe.refl _, List.prefix_refl _, r1, e1.set p1, s1⟩
theorem asgO_core {D : Ends} {σ : L2.St} {H : Hp} (q : rdS C (dAsgO i me) D σ H) : tAsg (rdN C me) (gName i) D σ H := by
  obtain ⟨F, β, S, ρ, hr, er, s0, o⟩ := sB_rdN q
  refine ⟨F, β, S, ρ, hr, er, s0, o.mono fun v S' F' β' H' _ _ k a h1 h2 h3 h4 => ?_⟩
  obtain ⟨F1, β1, S1, ρ1, v1, b, eb, r1, e1, s1, p1, p2, p3, p4, ow, o1⟩ := k a h1 h2 h3 h4
  cases eb
  exact o1 F1 β1 _ _ ⟨FLe.refl _, List.prefix_refl _, r1, e1.setO p1 p2 p3 p4 ow, s1⟩
theorem sim_asg {p2 : Pos} (h : StoreAt X x i) (he : PE X e (rd C me)) (hs : swapsWith e (some (.Name x p2)) pos.line X.env = pure false) : PS X (.Assign [.Name x p2] e pos) (rdS C (dAsg i me)) := (ps_set h.nd h.at_ h.loc he hs h.fn).imp fun _ _ _ => asg_core
theorem sim_asgO {p2 : Pos} (h : StoreAt X x i) (he : PE X e (rdN C me)) (hs : swapsWith e (some (.Name x p2)) pos.line X.env = pure false) : PS X (.Assign [.Name x p2] e pos) (rdS C (dAsgO i me)) := (ps_set h.nd h.at_ h.loc he hs h.fn).imp fun _ _ _ => asgO_core
/-! ### an expression alone, return, if, pass, break, continue -/
def dEx (m : Dn) : Dns := sB m fun _ ρ S => .nx ρ S
def dRet (m : Dn) : Dns := sB m fun v _ S => .ret v S
def dRetN : Dns := fun _ S => .ret .non S
def dIfS (t : Dn) (a b : Dns) : Dns := sB t fun v ρ S => match v with
  | .bl true => a ρ S
  | .bl false => b ρ S
  | _ => .bad
def dBrk : Dns := fun ρ S => .brk ρ S
def dCt : Dns := fun ρ S => .ct ρ S
theorem sim_expr (he : PE X e (rd C me)) (hs : swapsWith e none pos.line X.env = pure false) : PS X (.Expr e pos) (rdS C (dEx me)) := (ps_expr he hs).imp fun D σ H q => by
  obtain ⟨F, β, S, ρ, hr, er, s0, o⟩ := sB_rd q
  refine ⟨F, β, S, ρ, hr, er, s0, o.mono fun v S' F' β' H' _ _ k w rw => ?_⟩
  obtain ⟨F1, β1, S1, ρ1, v1, r1, e1, s1, p1, o1⟩ := k w rw
  exact o1 F1 β1 _ _ ⟨FLe.refl _, List.prefix_refl _, r1, e1, s1⟩
theorem sim_ret (he : PE X e (rd C me)) : PS X (.Return (some e) pos) (rdS C (dRet me)) := (ps_ret he).imp fun D σ H q => by
  obtain ⟨F, β, S, ρ, hr, er, s0, o⟩ := sB_rd q
  refine ⟨F, β, S, ρ, hr, er, s0, o.mono fun v S' F' β' H' _ _ k w rw => ?_⟩
  obtain ⟨F1, β1, S1, ρ1, v1, r1, e1, s1, p1, o1⟩ := k w rw
  exact o1 F1 β1 _ (FLe.refl _) (List.prefix_refl _) r1 s1 w p1
theorem sim_retN : PS X (.Return none pos) (rdS C dRetN) := ps_retN.imp fun D σ H q => by
  obtain ⟨F, β, S, ρ, hr, er, s0, o⟩ := q
  exact o F β H (FLe.refl _) (List.prefix_refl _) hr s0 _ rfl
theorem sim_pass : PS X (.Pass pos) (rdS C dSkip) := ps_pass.imp fun D σ H q => by
  obtain ⟨F, β, S, ρ, hr, er, s0, o⟩ := q
  exact o F β H σ ⟨FLe.refl F, List.prefix_refl β, hr, er, s0⟩
theorem sim_brk : PS X (.Break pos) (rdS C dBrk) := ps_break.imp fun D σ H q => by
  obtain ⟨F, β, S, ρ, hr, er, s0, o⟩ := q
  exact o F β H σ ⟨FLe.refl F, List.prefix_refl β, hr, er, s0⟩
theorem sim_ct : PS X (.Continue pos) (rdS C dCt) := ps_continue.imp fun D σ H q => by
  obtain ⟨F, β, S, ρ, hr, er, s0, o⟩ := q
  exact o F β H σ ⟨FLe.refl F, List.prefix_refl β, hr, er, s0⟩
theorem sim_if {c : Expr} {a b : List Stmt} {mc : Dn} {ma mb : Dns} (hc : PT X c (rdT C mc)) (ha : PSs X a (rdS C ma)) (hb : PSs X b (rdS C mb)) : PS X (.If c a b pos) (rdS C (dIfS mc ma mb)) := (ps_if hc ha hb).imp fun D σ H q => by
  obtain ⟨F, β, S, ρ, hr, er, s0, o⟩ := sB_rdT (fun v ρ S hv => by cases v <;> first | rfl | exact absurd rfl (hv _)) q
  refine ⟨F, β, S, ρ, hr, er, s0, o.mono fun v S' F' β' H' _ _ ⟨b, eb, k⟩ => ⟨b, eb, ?_⟩⟩
  obtain ⟨F1, β1, S1, ρ1, r1, e1, s1, o1⟩ := k
  cases b with
  | true => exact iteT ⟨F1, β1, S1, ρ1, r1, e1, s1, o1⟩
  | false => exact iteF ⟨F1, β1, S1, ρ1, r1, e1, s1, o1⟩
end
end Py
/-! Targets, lists changed in place, freezing. -/
namespace Py
open PySem PySem.Spec L2

/-! ### targets -/
abbrev Dt := PV → Env → Option Env
/-- slots alike but for some -/
def Alike (is : List Nat) (σ σ' : L2.St) : Prop := σ'.length = σ.length ∧ ∀ j, j ∉ is → σ'[j]? = σ[j]?
def TgD (C : CC) (is : List Nat) (g : TG) (t : Dt) : Prop := ∀ (F : Hp) (β : List Addr) (S : Store) (ρ : Env) (H : Hp) (σ : L2.St) (v : PV) (x : V) (ρ' : Env), HRel C.K F β S H → ERel C.K F β C.H0 C.xA H ρ σ → Rp C.K F β v x → t v ρ = some ρ' →
  ∀ Q : L2.St → Hp → Prop, (∀ σ', ERel C.K F β C.H0 C.xA H ρ' σ' → Alike is σ σ' → Q σ' H) → g x σ H Q
def TgOk (X : Cx) (C : CC) (tg : Expr) (g : TG) (t : Dt) : Prop := PG X tg g ∧ ∃ is, TgD C is g t
def tN (i : Nat) : Dt := fun v ρ => some (ρ.set i (.fz v))
def setAll : List Nat → List PV → Env → Option Env
  | [], [], ρ => some ρ
  | i :: is, v :: vs, ρ => setAll is vs (ρ.set i (.fz v))
  | _, _, _ => none
def tT (is : List Nat) : Dt := fun v ρ => match v with
  | .tup vs => setAll is vs ρ
  | _ => none
def gNames : List Nat → TGs
  | [] => gNil
  | i :: is => gCons (gName i) (gNames is)
section
variable {X : Cx} {C : CC} {x : Str} {i : Nat} {pos : Pos}
theorem tgd_name : TgD C [i] (gName i) (tN i) := fun F β S ρ H σ v w ρ' hr er rp e Q k => by
  cases e
  exact k _ (er.set rp) ⟨by rw [List.length_set], fun j hj => List.getElem?_set_ne (by simpa using Ne.symm (List.ne_of_not_mem_cons hj))⟩
theorem tg_name (h : StoreAt X x i) : TgOk X C (.Name x pos) (gName i) (tN i) := ⟨pg_name h.nd h.at_ h.loc h.fn, _, tgd_name⟩
theorem gnames_core : ∀ (is : List Nat) (F : Hp) (β : List Addr) (S : Store) (ρ : Env) (H : Hp) (σ : L2.St) (vs : List PV) (ws : List V) (ρ' : Env), HRel C.K F β S H → ERel C.K F β C.H0 C.xA H ρ σ → Rps C.K F β vs ws → setAll is vs ρ = some ρ' →
    ∀ Q : L2.St → Hp → Prop, (∀ σ', ERel C.K F β C.H0 C.xA H ρ' σ' → Alike is σ σ' → Q σ' H) → gNames is ws σ H Q
  | [], F, β, S, ρ, H, σ, vs, ws, ρ', hr, er, rp, e, Q, k => by
    cases vs with
    | nil => cases rp; cases e; exact ⟨rfl, k _ er ⟨rfl, fun _ _ => rfl⟩⟩
    | cons _ _ => cases e
  | i :: is, F, β, S, ρ, H, σ, vs, ws, ρ', hr, er, rp, e, Q, k => by
    cases vs with
    | nil => cases e
    | cons v vs =>
      obtain ⟨w, r, rfl, r1, r2⟩ := rp
      refine ⟨w, r, rfl, gnames_core is F β S _ H _ vs r ρ' hr (er.set r1) r2 e Q fun σ' er' al => k σ' er' ⟨by rw [al.1, List.length_set], fun j hj => ?_⟩⟩
      simp only [List.mem_cons, not_or] at hj
      rw [al.2 j hj.2, List.getElem?_set_ne (Ne.symm hj.1)]
theorem setAll_len : ∀ {is : List Nat} {vs : List PV} {ρ ρ' : Env}, setAll is vs ρ = some ρ' → is.length = vs.length
  | [], [], _, _, _ => rfl
  | [], _ :: _, _, _, e => by cases e
  | _ :: _, [], _, _, e => by cases e
  | i :: is, v :: vs, ρ, ρ', e => by
    have := setAll_len (is := is) (vs := vs) (show setAll is vs (ρ.set i (.fz v)) = some ρ' from e)
    simp [this]
theorem tgd_tup {is : List Nat} : TgD C is (gTup C.K is.length (gNames is)) (tT is) := fun F β S ρ H σ v w ρ' hr er rp e Q q => by
  unfold tT at e
  split at e
  · rename_i vs
    obtain ⟨a, ws, rfl, p1, p2, p3⟩ := rp
    exact ⟨a, ws, rfl, hr.le.sqT p1, by rw [← p3.length, setAll_len e], gnames_core is F β S ρ H σ vs ws ρ' hr er p3 e Q q⟩
  · cases e
theorem assignEach_cons {e : Expr} {es : List Expr} {env : PySem.Env} (h : noStar e = true) : assignEach (e :: es) env = (false, assign e env) :: assignEach es env := by
  cases e <;> first | rfl | (exact absurd h (by simp [noStar]))
/-- names in a row -/
inductive NamesAt (X : Cx) : List Expr → List Nat → Prop where
  | nil : NamesAt X [] []
  | cons {x : Str} {pos : Pos} {i : Nat} {es : List Expr} {is : List Nat} (h : StoreAt X x i) (hs : NamesAt X es is) : NamesAt X (.Name x pos :: es) (i :: is)
theorem NamesAt.pgs {es : List Expr} {is : List Nat} (h : NamesAt X es is) : PGs X es (gNames is) := by
  induction h with
  | nil => exact pgs_nil
  | cons h hs ih => exact pgs_cons (pg_name h.nd h.at_ h.loc h.fn) ih (by rw [assignEach_cons rfl]; rfl)
theorem NamesAt.len {es : List Expr} {is : List Nat} (h : NamesAt X es is) (env : PySem.Env) : (assignEach es env).length = is.length ∧ (assignEach es env).findIdx? (·.1) = none := by
  induction h with
  | nil => exact ⟨rfl, rfl⟩
  | cons h hs ih =>
    rw [assignEach_cons rfl]
    refine ⟨by simp [ih.1], ?_⟩
    rw [List.findIdx?_cons, ih.2]; rfl
theorem pg_names {es : List Expr} {is : List Nat} {k : Nat} (hc : X.calm = true) (h : NamesAt X es is) : PG X (.Tuple es k pos) (gTup X.K is.length (gNames is)) := pg_tup hc h.pgs (h.len _).1 (h.len _).2
theorem tg_tup {es : List Expr} {is : List Nat} {k : Nat} (hK : C.K = X.K) (hc : X.calm = true) (h : NamesAt X es is) : TgOk X C (.Tuple es k pos) (gTup C.K is.length (gNames is)) (tT is) := ⟨hK ▸ pg_names hc h, _, tgd_tup⟩
def dAsgT (t : Dt) (m : Dn) : Dns := sB m fun v ρ S => match t v ρ with
  | some ρ' => .nx ρ' S
  | none => .bad
theorem sim_asgT {tg e : Expr} {g : TG} {t : Dt} {me : Dn} (h : TgOk X C tg g t) (he : PE X e (rd C me)) (hs : swapsWithSole [tg] e pos.line X.env = pure false) (hw : swappedStores [tg] e X.env = pure none)
    (h1 : (assignEach [tg] X.env).map (·.2) = [assign tg X.env]) : PS X (.Assign [tg] e pos) (rdS C (dAsgT t me)) := (ps_asg he h.1 hs hw h1).imp fun D σ H q => by
  obtain ⟨F, β, S, ρ, hr, er, s0, o⟩ := sB_rd q
  refine ⟨F, β, S, ρ, hr, er, s0, o.mono fun v S' F' β' H' _ _ k w rw => ?_⟩
  obtain ⟨F1, β1, S1, ρ1, v1, r1, e1, s1, p1, o1⟩ := k w rw
  cases e2 : t v1 ρ1 with
  | none => rw [e2] at o1; exact o1.elim
  | some ρ' =>
    rw [e2] at o1
    obtain ⟨is, hd⟩ := h.2
    exact hd F1 β1 S1 ρ1 _ σ v1 w ρ' r1 e1 p1 e2 D.nx fun σ' er' _ => o1 F1 β1 _ σ' ⟨FLe.refl _, List.prefix_refl _, r1, er', s1⟩
/-! ### a, b = x, y -/
def dPar (i j : Nat) (ms : Dna) : Dns := fun ρ S => match ms ρ S with
  | .ok [v, w] S1 => .nx ((ρ.set i (.fz v)).set j (.fz w)) S1
  | .ok _ _ => .bad
  | .exc e S1 => .exc e ρ S1
  | .bad => .bad
theorem par_core {ms : Dna} {j : Nat} {D : Ends} {σ : L2.St} {H : Hp} (q : rdS C (dPar i j ms) D σ H) : tPar i j (rdA C ms) D σ H := by
  obtain ⟨F, β, S, ρ, hr, er, s0, o⟩ := q
  refine ⟨F, β, S, ρ, hr, er, s0, ?_⟩
  unfold dPar at o
  cases e : ms ρ S with
  | ok vs S1 =>
    rw [e] at o
    intro F1 β1 H1 s1 r1 ws rw'
    match vs, rw', o with
    | [v, w], rw', o =>
      obtain ⟨x, r, rfl, h1, y, r', rfl, h2, h3⟩ := rw'
      cases h3
      exact ⟨x, y, rfl, o F1 β1 H1 _ ⟨s1.mono, s1.pre, r1, ((er.step s1).set h1).set h2, s0.trans hr s1⟩⟩
    | [], _, o => exact o.elim
    | [_], _, o => exact o.elim
    | _ :: _ :: _ :: _, _, o => exact o.elim
  | exc er' S1 =>
    rw [e] at o
    exact fun F1 β1 H1 s1 r1 => o F1 β1 H1 σ ⟨s1.mono, s1.pre, r1, er.step s1, s0.trans hr s1⟩
  | bad => rw [e] at o; exact o
end

/-! ### a name's own list is changed, frozen -/
section
variable {K : PySem.W.Frag} {xA : Addr} {F H0 H F0 : Hp} {β β0 : List Addr} {S : Store} {ρ : Env} {σ : L2.St}
/-- the heap where the list at a, tracked but neither still nor boxed nor known at the entry, is another one -/
theorem HRel.mutO (r : HRel K F β S H) {a : Addr} {o : HO} (hf : F a = none) (hb : a ∉ β) : HRel K F β S (upd H a o) :=
  ⟨fun b u e => by rw [upd_ne (ne_of_none e hf)]; exact r.le b u e, r.len, r.nd, r.bf, fun n u b h1 h2 =>
    (r.box n u b h1 h2).mono (FLe.refl F) (List.prefix_refl β) fun z e => by
      rw [upd_ne (fun q => hb (by rw [← q]; exact List.mem_of_getElem? h2))]; exact e⟩
theorem Stp.mutO {F0 H0 : Hp} {β0 : List Addr} (s : Stp F0 β0 H0 F β H) {a : Addr} {o : HO} (h0 : H0 a = none) : Stp F0 β0 H0 F β (upd H a o) :=
  ⟨s.mono, s.pre, fun b u e hb => by rw [upd_ne (ne_of_none e h0)]; exact s.keep b u e hb, s.sep, fun b u e => by rw [upd_ne (ne_of_none e h0)]; exact s.there b u e⟩
theorem ERel.mutO (e : ERel K F β H0 xA H ρ σ) {i : Nat} {v : PV} (hi : ρ[i]? = some (.ow v)) :
    ∃ a, σ[i]? = some (some (.ref a)) ∧ F a = none ∧ a ∉ β ∧ H0 a = none ∧ OwnAt K F β H a v ∧
      ∀ (v' : PV) (o : HO), OwnAt K F β (upd H a o) a v' → ERel K F β H0 xA (upd H a o) (ρ.set i (.ow v')) σ := by
  obtain ⟨α, w1, w2⟩ := e.ow
  obtain ⟨q1, q2, q3, q4, q5⟩ := w1 i v hi
  refine ⟨α i, q1, q2, q3, q4, q5, fun v' o ho => ⟨by rw [List.length_set]; exact e.len, fun j u h => ?_, ⟨α, fun j u h => ?_, fun j k u u' h h' z => ?_⟩, fun j h => ?_⟩⟩
  · by_cases hij : i = j
    · subst hij
      rw [List.getElem?_set_self (List.getElem?_eq_some_iff.mp hi).1] at h; cases h
    · rw [List.getElem?_set_ne hij] at h
      exact e.fz j u h
  · by_cases hij : i = j
    · subst hij
      rw [List.getElem?_set_self (List.getElem?_eq_some_iff.mp hi).1] at h; cases h
      exact ⟨q1, q2, q3, q4, ho⟩
    · rw [List.getElem?_set_ne hij] at h
      obtain ⟨t1, t2, t3, t4, t5⟩ := w1 j u h
      refine ⟨t1, t2, t3, t4, t5.mono (FLe.refl F) (List.prefix_refl β) fun z ez => ?_⟩
      rw [upd_ne fun q => hij (w2 i j v u hi h q.symm)]; exact ez
  · have back : ∀ (j : Nat) (u : PV), (ρ.set i (.ow v'))[j]? = some (.ow u) → ∃ u0, ρ[j]? = some (.ow u0) := fun j u h => by
      by_cases hij : i = j
      · subst hij; exact ⟨v, hi⟩
      · rw [List.getElem?_set_ne hij] at h; exact ⟨u, h⟩
    obtain ⟨u0, h0⟩ := back j u h
    obtain ⟨u1, h1⟩ := back k u' h'
    exact w2 j k u0 u1 h0 h1 z
  · by_cases hij : i = j
    · subst hij
      rw [List.getElem?_set_self (List.getElem?_eq_some_iff.mp hi).1] at h; cases h
    · rw [List.getElem?_set_ne hij] at h
      exact e.ex j h
/-- a boxed list is another one -/
theorem HRel.mutB (r : HRel K F β S H) {n : Nat} {a : Addr} {o : MO} {u : HO} (ha : β[n]? = some a) (hbx : ∀ H', H' a = some u → BoxAt K F β H' a o) : HRel K F β (S.set n o) (upd H a u) := by
  have hm : a ∈ β := List.mem_of_getElem? ha
  have hf := r.bf a hm
  refine ⟨fun b z e => by rw [upd_ne (ne_of_none e hf)]; exact r.le b z e, by rw [List.length_set]; exact r.len, r.nd, r.bf, fun k z b h1 h2 => ?_⟩
  by_cases hk : n = k
  · subst hk
    rw [ha] at h2; cases h2
    have hl : n < S.length := by
      have := (List.getElem?_eq_some_iff.mp h1).1
      rwa [List.length_set] at this
    rw [List.getElem?_set_self hl] at h1; cases h1
    exact hbx _ upd_same
  · rw [List.getElem?_set_ne hk] at h1
    refine (r.box k z b h1 h2).mono (FLe.refl F) (List.prefix_refl β) fun y ey => ?_
    rw [upd_ne]
    · exact ey
    · intro q
      subst q
      obtain ⟨l1, e1⟩ := List.getElem?_eq_some_iff.mp ha
      obtain ⟨l2, e2⟩ := List.getElem?_eq_some_iff.mp h2
      exact hk ((List.getElem_inj r.nd).mp (e1.trans e2.symm))
theorem Stp.mutB {F0 H0 : Hp} {β0 : List Addr} (s : Stp F0 β0 H0 F β H) (r : HRel K F β S H) {a : Addr} {u : HO} (ha : a ∈ β) : Stp F0 β0 H0 F β (upd H a u) := by
  have ne : ∀ b o, H0 b = some o → b ∉ β0 → b ≠ a := fun b o e hb q => by
    subst q
    cases ef : F0 b with
    | none => exact (s.sep b o e ef hb).2 ha
    | some z =>
      have := s.mono b z ef
      rw [r.bf b ha] at this; cases this
  refine ⟨s.mono, s.pre, fun b o e hb => by rw [upd_ne (ne b o e hb)]; exact s.keep b o e hb, s.sep, fun b o e => ?_⟩
  by_cases hb : b = a
  · subst hb; exact ⟨u, upd_same⟩
  · rw [upd_ne hb]; exact s.there b o e
theorem ERel.mutB (e : ERel K F β H0 xA H ρ σ) {a : Addr} {u : HO} (ha : a ∈ β) : ERel K F β H0 xA (upd H a u) ρ σ := by
  refine ⟨e.len, e.fz, ?_, e.ex⟩
  obtain ⟨α, w1, w2⟩ := e.ow
  refine ⟨α, fun j v h => ?_, w2⟩
  obtain ⟨t1, t2, t3, t4, t5⟩ := w1 j v h
  exact ⟨t1, t2, t3, t4, t5.mono (FLe.refl F) (List.prefix_refl β) fun z ez => by rw [upd_ne fun q => t3 (by rw [q]; exact ha)]; exact ez⟩
end
/-- the list that a name holds: its own, or a boxed one; what it becomes -/
def chg (i : Nat) (f : List PV → Option (List PV)) : Env → Store → Option (Env × Store) := fun ρ S => match ρ[i]? with
  | some (.ow (.lst xs)) => (f xs).map fun ys => (ρ.set i (.ow (.lst ys)), S)
  | some (.fz (.ref n)) => match S[n]? with
    | some (.lst xs) => (f xs).map fun ys => (ρ, S.set n (.lst ys))
    | none => none
  | _ => none
/-- where it stands, and the state behind the change -/
theorem chg_ok {C : CC} {F H : Hp} {β : List Addr} {S : Store} {ρ : Env} {σ : L2.St} (hr : HRel C.K F β S H) (er : ERel C.K F β C.H0 C.xA H ρ σ) (s0 : Stp C.F0 C.B0 C.H0 F β H) {i : Nat} {f : List PV → Option (List PV)} {ρ' : Env} {S' : Store}
    (e : chg i f ρ S = some (ρ', S')) : ∃ a xs vs ys, σ[i]? = some (some (.ref a)) ∧ H a = some (.lst vs) ∧ vs.length ≤ sizeLine ∧ Rps C.K F β xs vs ∧ f xs = some ys ∧
      ∀ ws, Rps C.K F β ys ws → ws.length ≤ sizeLine → SR C F β F β S' ρ' (upd H a (.lst ws)) σ := by
  unfold chg at e
  split at e
  · rename_i xs hi
    cases hf : f xs with
    | none => rw [hf] at e; cases e
    | some ys =>
      rw [hf] at e
      cases e
      obtain ⟨a, q1, q2, q3, q4, ⟨vs, q5, q6, q7⟩, q8⟩ := er.mutO hi
      exact ⟨a, xs, vs, ys, q1, q5, q6, q7, hf, fun ws h1 h2 => ⟨FLe.refl F, List.prefix_refl β, hr.mutO q2 q3, q8 (.lst ys) _ ⟨ws, upd_same, h2, h1⟩, s0.mutO q4⟩⟩
  · rename_i n hi
    obtain ⟨w, q1, a, q2, rfl⟩ := er.fz i _ hi
    split at e
    · rename_i xs hs
      cases hf : f xs with
      | none => rw [hf] at e; cases e
      | some ys =>
        rw [hf] at e
        cases e
        obtain ⟨vs, q5, q6, q7⟩ := hr.box n _ a hs q2
        have ha : a ∈ β := List.mem_of_getElem? q2
        exact ⟨a, xs, vs, ys, q1, q5, q6, q7, hf, fun ws h1 h2 => ⟨FLe.refl F, List.prefix_refl β, hr.mutB q2 (fun H' e' => ⟨ws, e', h2, h1⟩), er.mutB ha, s0.mutB hr ha⟩⟩
    · cases e
  · cases e
/-! ### x[k] = e, x.append(e) -/
def setAt (k : PV) (v : PV) : List PV → Option (List PV) := fun xs => match k with
  | .int k => (ixN xs.length k).map fun j => xs.set j v
  | _ => none
def pushAt (v : PV) : List PV → Option (List PV) := fun xs => if xs.length < sz then some (xs ++ [v]) else none
def fin (o : Option (Env × Store)) : Flo := match o with
  | some (ρ, S) => .nx ρ S
  | none => .bad
/-- the name has a value -/
def hasN (i : Nat) (ρ : Env) : Bool := match ρ[i]? with
  | some (.ow _) => true
  | some (.fz _) => true
  | _ => false
theorem hasN_ok {xA : Addr} {K : PySem.W.Frag} {F H0 H : Hp} {β : List Addr} {ρ : Env} {σ : L2.St} (e : ERel K F β H0 xA H ρ σ) {i : Nat} (h : hasN i ρ = true) : ∃ o, σ[i]? = some (some o) := by
  unfold hasN at h
  split at h
  · rename_i v hi
    obtain ⟨α, w1, _⟩ := e.ow
    exact ⟨_, (w1 i _ hi).1⟩
  · rename_i v hi
    obtain ⟨w, q, _⟩ := e.fz i _ hi
    exact ⟨w, q⟩
  · cases h
def dSetN (i : Nat) (mi me : Dn) : Dns := sB me fun v => fun ρ S => if hasN i ρ = true then sB mi (fun k ρ S => fin (chg i (setAt k v) ρ S)) ρ S else .bad
/-- the name holds a list -/
def hasL (i : Nat) (ρ : Env) (S : Store) : Bool := match ρ[i]? with
  | some (.ow (.lst _)) => true
  | some (.fz (.ref n)) => match S[n]? with
    | some (.lst _) => true
    | none => false
  | _ => false
theorem hasL_ok {xA : Addr} {K : PySem.W.Frag} {F H0 H : Hp} {β : List Addr} {S : Store} {ρ : Env} {σ : L2.St} (r : HRel K F β S H) (e : ERel K F β H0 xA H ρ σ) {i : Nat} (h : hasL i ρ S = true) : ∃ o, σ[i]? = some (some o) ∧ ∃ a vs, o = .ref a ∧ H a = some (.lst vs) := by
  unfold hasL at h
  split at h
  · rename_i xs hi
    obtain ⟨α, w1, _⟩ := e.ow
    obtain ⟨q1, _, _, _, vs, q2, _⟩ := w1 i _ hi
    exact ⟨_, q1, _, vs, rfl, q2⟩
  · rename_i n hi
    obtain ⟨w, q1, a, q2, rfl⟩ := e.fz i _ hi
    split at h
    · rename_i xs hs
      obtain ⟨vs, q5, _⟩ := r.box n _ a hs q2
      exact ⟨_, q1, a, vs, rfl, q5⟩
    · cases h
  · cases h
def dApp' (i : Nat) (me : Dn) : Dns := fun ρ S => if hasL i ρ S = true then sB me (fun v ρ S => fin (chg i (pushAt v) ρ S)) ρ S else .bad
section
variable {X : Cx} {C : CC} {x : Str} {i : Nat} {pos p1 p2 p3 : Pos} {e ei : Expr} {me mi : Dn}
def notSl : Expr → Bool
  | .Slice _ _ _ _ => false
  | _ => true
theorem assign_sub {o i : Expr} {p : Pos} {env : PySem.Env} (h : notSl i = true) (v : Value) : assign (.Subscript o i p) env v = (do
      let ov ← holding [v] (eval o env)
      let iv ← holding [v, ov] (eval i env)
      standAt p
      holding [v, ov, iv] (setItem ov iv v)
      release [v, ov, iv] []) := by
  cases i <;> first | rfl | (exact absurd h (by simp [notSl]))
theorem sim_setN (hn : notSl ei = true) (h : NameAt X x i) (he : PE X e (rd C me)) (hi : PE X ei (rd C mi)) (hs : swapsWithSole [.Subscript (.Name x p1) ei p2] e pos.line X.env = pure false) (hw : swappedStores [.Subscript (.Name x p1) ei p2] e X.env = pure none) : PS X (.Assign [.Subscript (.Name x p1) ei p2] e pos) (rdS C (dSetN i mi me)) :=
  (ps_asg he (pg_sub (pe_var h.at_ h.vis h.d1 h.d2) hi set_list (assign_sub hn)) hs hw (by rw [assignEach_cons rfl]; rfl)).imp fun D σ H q => by
  obtain ⟨F, β, S, ρ, hr, er, s0, o⟩ := sB_rd q
  refine ⟨F, β, S, ρ, hr, er, s0, o.mono fun v S' F' β' H' _ _ k w rw => ?_⟩
  obtain ⟨F1, β1, S1, ρ1, v1, r1, e1, s1, p1, o1⟩ := k w rw
  -- the name's place, known from the last change
  have key : ∀ F2 β2 H2 S2 u x2, Stp F1 β1 H' F2 β2 H2 → HRel C.K F2 β2 S2 H2 → Rp C.K F2 β2 u x2 → OutS C F2 β2 (fin (chg i (setAt u v1) ρ1 S2)) D → ∀ o2, σ[i]? = some (some o2) → rSetL o2 x2 w H2 fun H3 => D.nx σ H3 := by
    intro F2 β2 H2 S2 u x2 s2 r2 ru o2 ob hob
    cases ec : chg i (setAt u v1) ρ1 S2 with
    | none => rw [ec] at o2; exact o2.elim
    | some z =>
      obtain ⟨ρ', S3⟩ := z
      rw [ec] at o2
      obtain ⟨a, xs, vs, ys, q1, q2, q3, q4, q5, q6⟩ := chg_ok r2 (e1.step s2) (s1.trans r1 s2) ec
      rw [q1] at hob; cases hob
      unfold setAt at q5
      split at q5
      · rename_i kk
        cases ru
        cases ej : ixN xs.length kk with
        | none => rw [ej] at q5; cases q5
        | some j =>
          rw [ej] at q5
          cases q5
          refine ⟨a, vs, kk, j, rfl, rfl, q2, by rw [← q4.length]; exact ej, ?_⟩
          exact o2 F2 β2 _ σ (q6 _ (q4.set (Rp.mono s2.mono s2.pre v1 w p1) j) (by rw [List.length_set]; exact q3))
      · cases q5
  split at o1
  · rename_i hh
    obtain ⟨ob, eσ⟩ := hasN_ok e1 hh
    refine ⟨ob, eσ, F1, β1, S1, ρ1, r1, e1, s1, ?_⟩
    unfold sB at o1
    cases em : mi ρ1 S1 with
    | ok u S2 =>
      rw [em] at o1
      exact fun F2 β2 H2 s2 r2 x2 ru => key F2 β2 H2 S2 u x2 s2 r2 ru (o1.later s2.mono s2.pre) ob eσ
    | exc er' S2 =>
      rw [em] at o1
      exact fun F2 β2 H2 s2 r2 => o1 F2 β2 H2 σ ⟨s2.mono, s2.pre, r2, e1.step s2, s1.trans r1 s2⟩
    | bad => rw [em] at o1; exact o1.elim
  · exact o1.elim
/-- x.append(e) -/
theorem lst_ty {K : PySem.W.Frag} {H : Hp} {a : Addr} {vs : List V} (h : H a = some (.lst vs)) : tyV K "list" (.ref a) H := .inl ⟨rfl, vs, SqL.of h⟩
theorem name_base {env : PySem.Env} {f : Str} {p : Pos} : attributeBase (.Name x p) f env (eval (.Name x p) env) = eval (.Name x p) env := rfl
theorem sim_app {sp : Pos} {a p : Pos} (h : NameAt X x i) (he : PE X e (rd C me)) (hst : noStar e = true) (hl : (a.endLine == p.line) = true) : PS X (.Expr (.Call (.Attribute (.Name x p1) "append" a) [e] [] p) sp) (rdS C (dApp' i me)) :=
  (ps_expr (pe_bm PySem.F.plainAttrs_list PySem.F.slot_list_append PySem.F.type_list_append mt_append (pe_var h.at_ h.vis h.d1 h.d2) (pa_cons he pa_nil (star_cons hst)) name_base
    (by rw [star_cons hst]; rfl) hl (star_cons hst) rfl) rfl).imp fun D σ H q => by
  obtain ⟨F, β, S, ρ, hr, er, s0, o⟩ := q
  unfold dApp' at o
  split at o
  · rename_i hh
    obtain ⟨ob, eσ⟩ := hasL_ok hr er hh
    obtain ⟨a, vs, rfl, hv⟩ := eσ.2
    refine ⟨_, eσ.1, lst_ty hv, F, β, S, ρ, hr, er, s0, ?_⟩
    unfold sB at o
    cases em : me ρ S with
    | ok v S2 =>
      rw [em] at o
      have o : OutS C F β (fin (chg i (pushAt v) ρ S2)) D := o
      intro F2 β2 H2 s2 r2 x2 ru
      cases ec : chg i (pushAt v) ρ S2 with
      | none => rw [ec] at o; exact o.elim
      | some z =>
        obtain ⟨ρ', S3⟩ := z
        rw [ec] at o
        obtain ⟨a', xs, vs', ys, q1, q2, q3, q4, q5, q6⟩ := chg_ok r2 (er.step s2) (s0.trans hr s2) ec
        rw [eσ.1] at q1
        cases q1
        unfold pushAt at q5
        split at q5
        · rename_i hz
          cases q5
          have hl : vs'.length < sizeLine := by rw [← q4.length, ← sz_eq]; exact hz
          refine ⟨a, vs', x2, rfl, rfl, q2, hl, ?_⟩
          exact o F2 β2 _ σ ((q6 (vs' ++ [x2]) (q4.append (Rps.one ru)) (by rw [List.length_append, List.length_singleton]; exact hl)).later s2.mono s2.pre)
        · cases q5
    | exc er' S2 =>
      rw [em] at o
      exact fun F2 β2 H2 s2 r2 => o F2 β2 H2 σ ⟨s2.mono, s2.pre, r2, er.step s2, s0.trans hr s2⟩
    | bad => rw [em] at o; exact o.elim
  · exact o.elim
/-- target = x.pop() -/
def dPop (t : Dt) (i : Nat) : Dns := fun ρ S => match ρ[i]? with
  | some (.ow (.lst xs)) => match xs[xs.length - 1]? with
    | some v => match t v (ρ.set i (.ow (.lst xs.dropLast))) with
      | some ρ' => .nx ρ' S
      | none => .bad
    | none => .bad
  | _ => .bad
theorem sim_pop {tg : Expr} {g : TG} {t : Dt} {a p sp : Pos} (h : NameAt X x i) (ht : TgOk X C tg g t) (hl : (a.endLine == p.line) = true) (hs : swapsWithSole [tg] (.Call (.Attribute (.Name x p1) "pop" a) [] [] p) sp.line X.env = pure false)
    (hw : swappedStores [tg] (.Call (.Attribute (.Name x p1) "pop" a) [] [] p) X.env = pure none) (h1 : (assignEach [tg] X.env).map (·.2) = [assign tg X.env]) :
    PS X (.Assign [tg] (.Call (.Attribute (.Name x p1) "pop" a) [] [] p) sp) (rdS C (dPop t i)) :=
  (ps_asg (pe_bm0 PySem.F.plainAttrs_list PySem.F.slot_list_pop PySem.F.type_list_pop mt_pop (pe_var h.at_ h.vis h.d1 h.d2) name_base hl) ht.1 hs hw h1).imp fun D σ H q => by
  obtain ⟨F, β, S, ρ, hr, er, s0, o⟩ := q
  unfold dPop at o
  split at o
  · rename_i xs hi
    split at o
    · rename_i v hv
      split at o
      · rename_i ρ' ht'
        obtain ⟨a, q1, q2, q3, q4, ⟨vs, q5, q6, q7⟩, q8⟩ := er.mutO hi
        obtain ⟨w, hw', rw'⟩ := q7.get hv
        have dl : Rps C.K F β xs.dropLast vs.dropLast := by
          rw [List.dropLast_eq_take, List.dropLast_eq_take, q7.length]
          exact q7.take _
        refine ⟨_, q1, lst_ty q5, a, vs, w, rfl, rfl, q5, by rw [← q7.length]; exact hw', ?_⟩
        obtain ⟨is, hd⟩ := ht.2
        exact hd F β S _ _ σ v w ρ' (hr.mutO q2 q3) (q8 (.lst xs.dropLast) (.lst vs.dropLast) ⟨_, upd_same, by rw [List.length_dropLast]; omega, dl⟩) rw' ht' D.nx fun σ' er' _ =>
          o F β _ σ' ⟨FLe.refl F, List.prefix_refl β, hr.mutO q2 q3, er', s0.mutO q4⟩
      · exact o.elim
    · exact o.elim
  · exact o.elim
/-! ### a list of one's own stands still from now on -/
def fz1 (i : Nat) (ρ : Env) : Env := match ρ[i]? with
  | some (.ow v) => ρ.set i (.fz v)
  | _ => ρ
def dFz (i : Nat) : Dns := fun ρ S => .nx (fz1 i ρ) S
theorem fz_core {m : Dns} {D : Ends} {σ : L2.St} {H : Hp} (q : rdS C (dSeq (dFz i) m) D σ H) : rdS C m D σ H := by
  obtain ⟨F, β, S, ρ, hr, er, s0, o⟩ := q
  have o : OutS C F β (m (fz1 i ρ) S) D := o
  unfold fz1 at o
  split at o
  · rename_i v hi
    obtain ⟨α, w1, w2⟩ := er.ow
    obtain ⟨q1, q2, q3, q4, q5⟩ := w1 i v hi
    cases v with
    | lst xs =>
      obtain ⟨vs, h1, h2, h3⟩ := q5
      have fl : FLe F (upd F (α i) (.lst vs)) := FLe.upd q2
      refine ⟨upd F (α i) (.lst vs), β, S, ρ.set i (.fz (.lst xs)), hr.freeze h1 q2 q3, ?_, ?_, o.later fl (List.prefix_refl β)⟩
      · refine ⟨by rw [List.length_set]; exact er.len, fun j u h => ?_, ⟨α, fun j u h => ?_, fun j k u u' h h' => ?_⟩, fun j h => ?_⟩
        · by_cases hij : i = j
          · subst hij
            rw [List.getElem?_set_self (List.getElem?_eq_some_iff.mp hi).1] at h
            cases h
            exact ⟨_, q1, _, vs, rfl, upd_same, h2, Rps.mono fl (List.prefix_refl β) _ _ h3⟩
          · rw [List.getElem?_set_ne hij] at h
            obtain ⟨w, e1, e2⟩ := er.fz j u h
            exact ⟨w, e1, Rp.mono fl (List.prefix_refl β) _ _ e2⟩
        · by_cases hij : i = j
          · subst hij
            rw [List.getElem?_set_self (List.getElem?_eq_some_iff.mp hi).1] at h
            cases h
          · rw [List.getElem?_set_ne hij] at h
            obtain ⟨t1, t2, t3, t4, t5⟩ := w1 j u h
            have hne : α j ≠ α i := fun z => hij (w2 j i u _ h hi z).symm
            exact ⟨t1, by rw [upd_ne hne]; exact t2, t3, t4, t5.mono fl (List.prefix_refl β) fun z ez => ez⟩
        · by_cases hij : i = j
          · subst hij
            rw [List.getElem?_set_self (List.getElem?_eq_some_iff.mp hi).1] at h
            cases h
          · rw [List.getElem?_set_ne hij] at h
            by_cases hik : i = k
            · subst hik
              rw [List.getElem?_set_self (List.getElem?_eq_some_iff.mp hi).1] at h'
              cases h'
            · rw [List.getElem?_set_ne hik] at h'
              exact w2 j k u u' h h'
        · by_cases hij : i = j
          · subst hij
            rw [List.getElem?_set_self (List.getElem?_eq_some_iff.mp hi).1] at h
            cases h
          · rw [List.getElem?_set_ne hij] at h
            exact er.ex j h
      · refine ⟨s0.mono.trans fl, s0.pre, s0.keep, fun b u e1 e2 e3 => ?_, s0.there⟩
        obtain ⟨t1, t2⟩ := s0.sep b u e1 e2 e3
        exact ⟨by rw [upd_ne (ne_of_none e1 q4)]; exact t1, t2⟩
    | _ => exact q5.elim
  · exact ⟨F, β, S, ρ, hr, er, s0, o⟩
theorem sim_fz {st : Stmt} {m : Dns} (h : PS X st (rdS C m)) : PS X st (rdS C (dSeq (dFz i) m)) := h.imp fun _ _ _ => fz_core
end
end Py
/-! Loops. -/
namespace Py
open PySem PySem.Spec L2

/-! ### what is walked -/
/-- a list or a tuple, as it stands -/
def iSeq (K : PySem.W.Frag) (tl : TE) : TI := fun σ H R => tl σ H fun x H1 => ∃ a, x = .ref a ∧ (((∃ xs, SqL K H1 a xs) ∧ R (Itl K a) H1) ∨ ((∃ xs, SqT K H1 a xs) ∧ R (Itt K a) H1))
theorem pi_seq {X : Cx} {tg l : Expr} {tl : TE} (hl : PE X l tl) : PI X tg l (iSeq X.K tl) := by
  refine ⟨fun pins s σ H R I h => ?_⟩
  refine thn (hl.run pins s σ H _ I h) fun v s1 ⟨x, H1, I1, r1, q1⟩ => ?_
  obtain ⟨a, e, q⟩ := q1
  subst e
  cases r1
  rcases q with ⟨⟨xs, hq⟩, q⟩ | ⟨⟨xs, hq⟩, q⟩
  · obtain ⟨its, rv, p, hz⟩ := I1.list hq
    refine wpAny_pyIter_list p.isList ?_
    refine ⟨s1.heap.objs.size, [s1.heap.objs.size], _, _, H1, rfl, I1.kept (t' := s1.toks) fun b o e => Heap.get?_push_of_some _ e, turn_list a _, ⟨_, Heap.get?_push_size _ rfl, rfl, rfl⟩, fun b hb => ?_, q⟩
    have e : b = s1.heap.objs.size := by simpa using hb
    subst e
    exact I1.fpOk (Nat.le_refl _) (I1.hok.fresh (Nat.le_refl _))
  · obtain ⟨its, rv, p, hz⟩ := I1.tuple hq
    refine wpAny_pyIter_tuple (show s1.heap.IsTuple a its.toArray from p) ?_
    refine ⟨s1.heap.objs.size, [s1.heap.objs.size], _, _, H1, rfl, I1.kept (t' := s1.toks) fun b o e => Heap.get?_push_of_some _ e, turn_tuple a _, ⟨_, Heap.get?_push_size _ rfl, rfl, rfl⟩, fun b hb => ?_, q⟩
    have e : b = s1.heap.objs.size := by simpa using hb
    subst e
    exact I1.fpOk (Nat.le_refl _) (I1.hok.fresh (Nat.le_refl _))

/-- a walk's items by values; how each stands: in a still list, a still tuple, a range -/
inductive Wk where
  | lst (a : Addr) (vs : List V) | tup (a : Addr) (vs : List V) | rng (lo : Int) (n : Nat)
def Wk.it (K : PySem.W.Frag) : Wk → It
  | .lst a _ => Itl K a
  | .tup a _ => Itt K a
  | .rng lo n => Itr lo n
def Wk.ok (K : PySem.W.Frag) (F : Hp) : Wk → Prop
  | .lst a vs => SqL K F a vs
  | .tup a vs => SqT K F a vs
  | .rng _ _ => True
def Wk.items : Wk → List V
  | .lst _ vs => vs
  | .tup _ vs => vs
  | .rng lo n => (List.range n).map fun i => V.int (lo + (i : Nat))
theorem Wk.len {w : Wk} : True := trivial
/-- the three forms in one: Pv by the turn -/
theorem walk_for {K : PySem.W.Frag} {w : Wk} {F : Hp} (hw : w.ok K F) {g : TG} {tb : TS} {D : Ends} {σ : L2.St} {H : Hp} (Pv : Nat → L2.St → Hp → Prop) (h0 : Pv 0 σ H) (hl : ∀ i σ H, i ≤ w.items.length → Pv i σ H → FLe F H)
    (hs : ∀ i x σ H, w.items[i]? = some x → Pv i σ H → g x σ H fun σ2 H2 => tb { D with nx := Pv (i + 1), ct := Pv (i + 1), bk := D.nx } σ2 H2) (hd : ∀ σ H, Pv w.items.length σ H → D.nx σ H) :
    ∃ W : Nat → Nat → L2.St → Hp → Prop, (∃ m, W 0 m σ H) ∧ ∀ i m σ H, W i m σ H →
      ((w.it K).stop i H ∧ D.nx σ H) ∨ ((w.it K).go i H ∧ ∃ N : L2.St → Hp → Prop, (∀ σ' H', N σ' H' → ∃ m', m' < m ∧ W (i + 1) m' σ' H') ∧ ∀ x H', (w.it K).yld i H x H' → g x σ H' fun σ2 H2 => tb { D with nx := N, ct := N, bk := D.nx } σ2 H2) := by
  cases w with
  | lst a vs => exact for_list (K := K) (a := a) (xs := vs) Pv h0 (fun i σ H hi p => (hl i σ H hi p).sqL hw) hs hd
  | tup a vs => exact for_tup (K := K) (a := a) (xs := vs) Pv h0 (fun i σ H hi p => (hl i σ H hi p).sqT hw) hs hd
  | rng lo n =>
    have hn : (Wk.rng lo n).items.length = n := by simp [Wk.items]
    refine for_range (lo := lo) (n := n) Pv h0 (fun i σ H hi p => hs i _ σ H ?_ p) (fun σ H p => hd σ H (by rw [hn]; exact p))
    simp [Wk.items, hi]
theorem walk_lc {K : PySem.W.Frag} {w : Wk} {F : Hp} (hw : w.ok K F) {g : TG} {tt : TT} {te : TE} {vs : List Nat} {σ : L2.St} {H1 : Hp} {D : Addr} {Qd : Hp → Prop} (Pv : Nat → Hp → Prop) (h0 : Pv 0 (upd H1 D (.lst []))) (hl : ∀ i H, i ≤ w.items.length → Pv i H → FLe F H)
    (hs : ∀ i x H, w.items[i]? = some x → Pv i H → g x (wipe σ vs) H fun σ2 H2 => wipe σ2 vs = wipe σ vs ∧ tt σ2 H2 fun b H3 =>
      if b = true then te σ2 H3 fun y H4 => ∃ acc, H4 D = some (.lst acc) ∧ acc.length < sizeLine ∧ Pv (i + 1) (upd H4 D (.lst (acc ++ [y]))) else Pv (i + 1) H3) (hd : ∀ H, Pv w.items.length H → Qd H) :
    ∃ W : Nat → Nat → Hp → Prop, (∃ m, W 0 m (upd H1 D (.lst []))) ∧ ∀ i m H, W i m H →
      ((w.it K).stop i H ∧ Qd H) ∨ ((w.it K).go i H ∧ ∃ Nx : Hp → Prop, (∀ H', Nx H' → ∃ m', m' < m ∧ W (i + 1) m' H') ∧ ∀ x H', (w.it K).yld i H x H' → g x (wipe σ vs) H' fun σ2 H2 => wipe σ2 vs = wipe σ vs ∧ tt σ2 H2 fun b H3 =>
        if b = true then te σ2 H3 fun y H4 => ∃ acc, H4 D = some (.lst acc) ∧ acc.length < sizeLine ∧ Nx (upd H4 D (.lst (acc ++ [y]))) else Nx H3) := by
  cases w with
  | lst a xs => exact lc_list (K := K) (a := a) (xs := xs) Pv h0 (fun i H hi p => (hl i H hi p).sqL hw) hs hd
  | tup a xs => exact lc_tup (K := K) (a := a) (xs := xs) Pv h0 (fun i H hi p => (hl i H hi p).sqT hw) hs hd
  | rng lo n =>
    have hn : (Wk.rng lo n).items.length = n := by simp [Wk.items]
    refine lc_range (lo := lo) (n := n) Pv h0 (fun i H hi p => hs i _ H ?_ p) (fun H p => hd H (by rw [hn]; exact p))
    simp [Wk.items, hi]

/-- what is walked: its items; the still heap holds it -/
abbrev Dw := Env → Store → Res (List PV)
def rdI (C : CC) (m : Dw) : TI := fun σ H R => ∃ F β S ρ, HRel C.K F β S H ∧ ERel C.K F β C.H0 C.xA H ρ σ ∧ Stp C.F0 C.B0 C.H0 F β H ∧
  Outc C F β H σ (m ρ S) fun vs S' F' β' H' => ∀ w : Wk, w.ok C.K F' → Rps C.K F' β' vs w.items → vs.length ≤ sizeLine → R (w.it C.K) H'
theorem _root_.L2.PI.imp {X : Cx} {tg e : Expr} {t t' : TI} (h : PI X tg e t) (i : ∀ σ H Q, t' σ H Q → t σ H Q) : PI X tg e t' := ⟨fun pins s σ H Q I q => h.run pins s σ H Q I (i σ H Q q)⟩
def itemsOf (v : PV) : Option (List PV) := match v with
  | .lst xs => some xs
  | .tup xs => some xs
  | .scr ns => some (ns.map .int)
  | _ => none
def dSeqI (m : Dn) : Dw := fun ρ S => bnd (m ρ S) fun v S1 => match itemsOf v with
  | some xs => .ok xs S1
  | none => .bad
section
variable {X : Cx} {C : CC} {tg e : Expr} {me : Dn} {pos p : Pos}
theorem sim_iSeq (hK : C.K = X.K) (he : PE X e (rd C me)) : PI X tg e (rdI C (dSeqI me)) := (hK ▸ pi_seq he : PI X tg e (iSeq C.K (rd C me))).imp fun σ H R q => by
  obtain ⟨F, β, S, ρ, hr, er, s0, o⟩ := q
  refine ⟨F, β, S, ρ, hr, er, s0, o.bind.mono fun v S1 F1 β1 H1 s1 r1 o1 w rw => ?_⟩
  unfold itemsOf at o1
  cases v with
  | lst xs =>
    obtain ⟨a, vs, rfl, h1, h2, h3⟩ := rw
    exact ⟨a, rfl, .inl ⟨⟨vs, SqL.of (r1.le _ _ h1)⟩, o1 F1 β1 H1 (Stp.refl _ _ _) r1 (.lst a vs) (SqL.of h1) h3 (by rw [h3.length]; exact h2)⟩⟩
  | tup xs =>
    obtain ⟨a, vs, rfl, h1, h2, h3⟩ := rw
    exact ⟨a, rfl, .inr ⟨⟨vs, r1.le.sqT h1⟩, o1 F1 β1 H1 (Stp.refl _ _ _) r1 (.tup a vs) h1 h3 (by rw [h3.length]; exact h2)⟩⟩
  | scr ns =>
    obtain ⟨a, rfl, h1, h2⟩ := rw
    exact ⟨a, rfl, .inl ⟨⟨_, r1.le.sqL h1⟩, o1 F1 β1 H1 (Stp.refl _ _ _) r1 (.lst a (ns.map V.int)) h1 (Rps.ints ns) (by rw [List.length_map]; exact h2)⟩⟩
  | _ => exact o1.elim
/-- range(a), range(a, b) -/
def rng (lo hi : Int) : List PV := (List.range (hi - lo).toNat).map fun i => PV.int (lo + (i : Nat))
def dRng1 (m : Dn) : Dw := fun ρ S => bnd (m ρ S) fun v S1 => match v with
  | .int j => if decide (-(2 ^ 62) ≤ j) && decide (j < 2 ^ 24) then .ok (rng 0 j) S1 else .bad
  | _ => .bad
def dRng2 (m m' : Dn) : Dw := fun ρ S => bnd (m ρ S) fun v S1 => bnd (m' ρ S1) fun u S2 => match v, u with
  | .int i, .int j => if decide (-(2 ^ 62) ≤ i) && decide (i < 2 ^ 62) && decide (-(2 ^ 62) ≤ j) && decide (j < 2 ^ 62) && decide (j - i ≤ 2 ^ 24) then .ok (rng i j) S2 else .bad
  | _, _ => .bad
theorem Rps.rng {K : PySem.W.Frag} {F : Hp} {β : List Addr} {lo : Int} : ∀ l : List Nat, Rps K F β (l.map fun i => PV.int (lo + (i : Nat))) (l.map fun i => V.int (lo + (i : Nat)))
  | [] => rfl
  | i :: l => ⟨_, _, rfl, rfl, Rps.rng l⟩
theorem sim_iRng1 {a : Expr} {ma : Dn} (hg : Gl X "range") (hm : X.mg "range" = none) (ha : PE X a (rd C ma)) (hst : noStar a = true) : PI X tg (.Call (.Name "range" p) [a] [] pos) (rdI C (dRng1 ma)) :=
  (pi_range1 hg hm (pa_cons ha pa_nil (star_cons hst)) (star_cons hst)).imp fun σ H R q => by
  obtain ⟨F, β, S, ρ, hr, er, s0, o⟩ := q
  refine ⟨F, β, S, ρ, hr, er, s0, o.bind.mono fun v S1 F1 β1 H1 s1 r1 o1 w rw => ?_⟩
  split at o1
  · rename_i j
    split at o1
    · rename_i hc
      rw [Bool.and_eq_true] at hc
      have h1 := of_decide_eq_true hc.1
      have h2 := of_decide_eq_true hc.2
      cases rw
      refine ⟨j, rfl, h1, by omega, ?_⟩
      exact o1 F1 β1 H1 (Stp.refl _ _ _) r1 (.rng 0 j.toNat) trivial (by rw [rng, Int.sub_zero]; exact Rps.rng _) (by rw [rng, List.length_map, List.length_range, sizeLine_eq]; omega)
    · exact o1.elim
  · exact o1.elim
theorem sim_iRng2 {a b : Expr} {ma mb : Dn} (hg : Gl X "range") (hm : X.mg "range" = none) (ha : PE X a (rd C ma)) (hb : PE X b (rd C mb)) (hst : noStar a = true) (hst' : noStar b = true) : PI X tg (.Call (.Name "range" p) [a, b] [] pos) (rdI C (dRng2 ma mb)) :=
  (pi_range2 hg hm (pa_cons ha (pa_cons hb pa_nil (star_cons hst')) (star_cons hst)) (by rw [star_cons hst, star_cons hst']; rfl) (star_cons hst')).imp fun σ H R q => by
  obtain ⟨F, β, S, ρ, hr, er, s0, o⟩ := q
  refine ⟨F, β, S, ρ, hr, er, s0, o.bind.mono fun v S1 F1 β1 H1 s1 r1 o1 w rw => ?_⟩
  refine ⟨F1, β1, S1, ρ, r1, er.step s1, s0.trans hr s1, o1.bind.mono fun u S2 F2 β2 H2 s2 r2 o2 w2 rw2 => ?_⟩
  split at o2
  · rename_i i j
    split at o2
    · rename_i hc
      simp only [Bool.and_eq_true, decide_eq_true_eq] at hc
      obtain ⟨⟨⟨⟨h1, h2⟩, h3⟩, h4⟩, h5⟩ := hc
      cases rw
      cases rw2
      refine ⟨i, j, rfl, ⟨h1, h2, h3, h4⟩, ?_⟩
      exact o2 F2 β2 H2 (Stp.refl _ _ _) r2 (.rng i (j - i).toNat) trivial (Rps.rng _) (by rw [rng, List.length_map, List.length_range, sizeLine_eq]; omega)
    · exact o2.elim
  · exact o2.elim

/-! ### for -/
def forD (t : Dt) (b : Dns) : List PV → Dns
  | [], ρ, S => .nx ρ S
  | v :: vs, ρ, S => match t v ρ with
    | none => .bad
    | some ρ1 => match b ρ1 S with
      | .nx ρ2 S2 => forD t b vs ρ2 S2
      | .ct ρ2 S2 => forD t b vs ρ2 S2
      | .brk ρ2 S2 => .nx ρ2 S2
      | .ret v S2 => .ret v S2
      | .exc e ρ2 S2 => .exc e ρ2 S2
      | .bad => .bad
def dFor (w : Dw) (t : Dt) (b : Dns) : Dns := fun ρ S => match w ρ S with
  | .ok vs S1 => forD t b vs ρ S1
  | .exc e S1 => .exc e ρ S1
  | .bad => .bad
theorem for_core {wi : Dw} {g : TG} {t : Dt} {mb : Dns} (hK : C.K = X.K) (ht : TgOk X C tg g t) {D : Ends} {σ : L2.St} {H : Hp} (q : rdS C (dFor wi t mb) D σ H) : tFor (rdI C wi) g (rdS C mb) D σ H := by
  obtain ⟨F, β, S, ρ, hr, er, s0, o⟩ := q
  refine ⟨F, β, S, ρ, hr, er, s0, ?_⟩
  unfold dFor at o
  cases ew : wi ρ S with
  | bad => rw [ew] at o; exact o.elim
  | exc e' S1 =>
    rw [ew] at o
    exact fun F1 β1 H1 s1 r1 => o F1 β1 H1 σ ⟨s1.mono, s1.pre, r1, er.step s1, s0.trans hr s1⟩
  | ok vs S1 =>
    rw [ew] at o
    have o : OutS C F β (forD t mb vs ρ S1) D := o
    intro F1 β1 H1 s1 r1 w hw hv hz
    refine walk_for hw (fun i σ' H' => ∃ F' β' S' ρ', SR C F1 β1 F' β' S' ρ' H' σ' ∧ OutS C F' β' (forD t mb (vs.drop i) ρ' S') D) ?_ (fun i σ' H' _ ⟨F', β', S', ρ', s, _⟩ => s.mono.trans s.hr.le) ?_ ?_
    · exact ⟨F1, β1, S1, ρ, ⟨FLe.refl _, List.prefix_refl _, r1, er.step s1, s0.trans hr s1⟩, (o.later s1.mono s1.pre)⟩
    · intro i x σ' H' hx ⟨F', β', S', ρ', s, o'⟩
      obtain ⟨v, hv1, hv2⟩ := hv.get' hx
      have hi : i < vs.length := (List.getElem?_eq_some_iff.mp hv1).1
      have ed : vs.drop i = v :: vs.drop (i + 1) := by
        rw [List.drop_eq_getElem_cons hi]
        congr 1
        exact (List.getElem?_eq_some_iff.mp hv1).2
      rw [ed] at o'
      unfold forD at o'
      split at o'
      · exact o'.elim
      · rename_i ρ1 ht1
        obtain ⟨is, hd⟩ := ht.2
        refine hd F' β' S' ρ' H' σ' v x ρ1 s.hr s.er (Rp.mono s.mono s.pre v x hv2) ht1 _ fun σ2 er2 _ => ?_
        refine ⟨F', β', S', ρ1, s.hr, er2, s.s0, ?_⟩
        cases eb : mb ρ1 S' with
        | nx ρ2 S2 =>
          rw [eb] at o'
          exact fun F2 β2 H2 σ3 s2 => ⟨F2, β2, S2, ρ2, s2.later s.mono s.pre, o'.later s2.mono s2.pre⟩
        | ct ρ2 S2 =>
          rw [eb] at o'
          exact fun F2 β2 H2 σ3 s2 => ⟨F2, β2, S2, ρ2, s2.later s.mono s.pre, o'.later s2.mono s2.pre⟩
        | brk ρ2 S2 => rw [eb] at o'; exact o'
        | ret v S2 => rw [eb] at o'; exact o'
        | exc e ρ2 S2 => rw [eb] at o'; exact o'
        | bad => rw [eb] at o'; exact o'
    · intro σ' H' ⟨F', β', S', ρ', s, o'⟩
      rw [← hv.length, List.drop_length] at o'
      exact o' F' β' H' σ' ⟨FLe.refl _, List.prefix_refl _, s.hr, s.er, s.s0⟩
theorem isSet_pure {e : Expr} {env : PySem.Env} (h : (match e with | .Set _ _ _ => false | _ => true) = true) : ∀ x, foldedSetIterable e env x = pure x := by
  intro x
  cases e <;> first | rfl | (exact absurd h (by simp))
theorem sim_for {wi : Dw} {g : TG} {t : Dt} {mb : Dns} {body : List Stmt} (hK : C.K = X.K) (hp : PassesOwn (model X.prog X.w) X.A X.env X.xe) (hc : X.calm = true) (hi : PI X tg e (rdI C wi)) (ht : TgOk X C tg g t) (hb : PSs X body (rdS C mb))
    (hs : ∀ x, foldedSetIterable e X.env x = pure x) : PS X (.For tg e body [] pos) (rdS C (dFor wi t mb)) := (ps_for hp hc hi ht.1 hb hs).imp fun _ _ _ => for_core hK ht
/-! ### while -/
def whN (c : Dn) (b : Dns) : Nat → Dns
  | 0, _, _ => .bad
  | n + 1, ρ, S => match c ρ S with
    | .ok (.bl true) S1 => match b ρ S1 with
      | .nx ρ2 S2 => whN c b n ρ2 S2
      | .ct ρ2 S2 => whN c b n ρ2 S2
      | .brk ρ2 S2 => .nx ρ2 S2
      | .ret v S2 => .ret v S2
      | .exc e ρ2 S2 => .exc e ρ2 S2
      | .bad => .bad
    | .ok (.bl false) S1 => .nx ρ S1
    | .ok _ _ => .bad
    | .exc e S1 => .exc e ρ S1
    | .bad => .bad
theorem whN_mono (c : Dn) (b : Dns) : ∀ (n : Nat) (ρ : Env) (S : Store), whN c b n ρ S ≠ .bad → whN c b (n + 1) ρ S = whN c b n ρ S
  | 0, _, _, h => absurd rfl h
  | n + 1, ρ, S, h => by
    unfold whN at h ⊢
    cases ec : c ρ S with
    | bad => rfl
    | exc e S1 => rfl
    | ok v S1 =>
      rw [ec] at h
      cases v with
      | bl k =>
        cases k with
        | false => rfl
        | true =>
          simp only at h ⊢
          cases eb : b ρ S1 with
          | nx ρ2 S2 => rw [eb] at h; exact whN_mono c b n ρ2 S2 h
          | ct ρ2 S2 => rw [eb] at h; exact whN_mono c b n ρ2 S2 h
          | _ => rfl
      | _ => rfl
theorem whN_le (c : Dn) (b : Dns) {n m : Nat} (h : n ≤ m) {ρ : Env} {S : Store} (hn : whN c b n ρ S ≠ .bad) : whN c b m ρ S = whN c b n ρ S := by
  induction m with
  | zero =>
    have : n = 0 := by omega
    subst this; rfl
  | succ m ih =>
    by_cases e : n = m + 1
    · subst e; rfl
    · have := ih (by omega)
      rw [whN_mono c b m ρ S (by rw [this]; exact hn), this]
open Classical in
/-- while: where some number of turns ends it, what it ends with -/
noncomputable def dWh (c : Dn) (b : Dns) : Dns := fun ρ S => if h : ∃ n, whN c b n ρ S ≠ .bad then whN c b h.choose ρ S else .bad
theorem dWh_of (c : Dn) (b : Dns) {n : Nat} {ρ : Env} {S : Store} (h : whN c b n ρ S ≠ .bad) : dWh c b ρ S = whN c b n ρ S := by
  unfold dWh
  have hx : ∃ n, whN c b n ρ S ≠ .bad := ⟨n, h⟩
  rw [dif_pos hx]
  have h2 := hx.choose_spec
  rcases Nat.le_total n hx.choose with q | q
  · exact whN_le c b q h
  · exact (whN_le c b q h2).symm
theorem dWh_n {c : Dn} {b : Dns} {ρ : Env} {S : Store} (h : dWh c b ρ S ≠ .bad) : ∃ n, whN c b n ρ S ≠ .bad ∧ dWh c b ρ S = whN c b n ρ S := by
  unfold dWh at h
  split at h
  · rename_i hx
    exact ⟨hx.choose, h, dWh_of c b hx.choose_spec⟩
  · exact absurd rfl h
theorem OutS.notBad {F : Hp} {β : List Addr} {fl : Flo} {D : Ends} (h : OutS C F β fl D) : fl ≠ .bad := fun e => by rw [e] at h; exact h
theorem while_core {mc : Dn} {mb : Dns} {D : Ends} {σ : L2.St} {H : Hp} (q : rdS C (dWh mc mb) D σ H) : tWhile (rdT C mc) (rdS C mb) D σ H := by
  obtain ⟨F, β, S, ρ, hr, er, s0, o⟩ := q
  obtain ⟨n, hn, en⟩ := dWh_n o.notBad
  rw [en] at o
  refine ⟨fun m σ' H' => ∃ F' β' S' ρ', HRel C.K F' β' S' H' ∧ ERel C.K F' β' C.H0 C.xA H' ρ' σ' ∧ Stp C.F0 C.B0 C.H0 F' β' H' ∧ OutS C F' β' (whN mc mb m ρ' S') D, ⟨n, F, β, S, ρ, hr, er, s0, o⟩, ?_⟩
  intro m σ' H' ⟨F', β', S', ρ', hr', er', s0', o'⟩
  cases m with
  | zero => exact o'.elim
  | succ m =>
    refine ⟨F', β', S', ρ', hr', er', s0', ?_⟩
    unfold whN at o'
    cases ec : mc ρ' S' with
    | bad => rw [ec] at o'; exact o'.elim
    | exc e' S1 =>
      rw [ec] at o'
      exact fun F1 β1 H1 s1 r1 => o' F1 β1 H1 σ' ⟨s1.mono, s1.pre, r1, er'.step s1, s0'.trans hr' s1⟩
    | ok v S1 =>
      rw [ec] at o'
      intro F1 β1 H1 s1 r1
      cases v with
      | bl k =>
        refine ⟨k, rfl, ?_⟩
        cases k with
        | false =>
          have o' : OutS C F' β' (.nx ρ' S1) D := o'
          exact iteF (o' F1 β1 H1 σ' ⟨s1.mono, s1.pre, r1, er'.step s1, s0'.trans hr' s1⟩)
        | true =>
          refine iteT ⟨fun σ2 H2 => ∃ F2 β2 S2 ρ2, HRel C.K F2 β2 S2 H2 ∧ ERel C.K F2 β2 C.H0 C.xA H2 ρ2 σ2 ∧ Stp C.F0 C.B0 C.H0 F2 β2 H2 ∧ OutS C F2 β2 (whN mc mb m ρ2 S2) D, fun σ2 H2 h2 => ⟨m, Nat.lt_succ_self m, h2⟩, ?_⟩
          refine ⟨F1, β1, S1, ρ', r1, er'.step s1, s0'.trans hr' s1, ?_⟩
          simp only at o'
          cases eb : mb ρ' S1 with
          | nx ρ2 S2 =>
            rw [eb] at o'
            exact fun F2 β2 H2 σ2 s2 => ⟨F2, β2, S2, ρ2, s2.hr, s2.er, s2.s0, (OutS.later s1.mono s1.pre o').later s2.mono s2.pre⟩
          | ct ρ2 S2 =>
            rw [eb] at o'
            exact fun F2 β2 H2 σ2 s2 => ⟨F2, β2, S2, ρ2, s2.hr, s2.er, s2.s0, (OutS.later s1.mono s1.pre o').later s2.mono s2.pre⟩
          | brk ρ2 S2 => rw [eb] at o'; exact OutS.later s1.mono s1.pre (fl := .nx ρ2 S2) o'
          | ret v S2 => rw [eb] at o'; exact OutS.later s1.mono s1.pre (fl := .ret v S2) o'
          | exc e ρ2 S2 => rw [eb] at o'; exact OutS.later s1.mono s1.pre (fl := .exc e ρ2 S2) o'
          | bad => rw [eb] at o'; exact o'.elim
      | _ => exact o'.elim
theorem sim_while {c : Expr} {body : List Stmt} {mc : Dn} {mb : Dns} (hp : PassesOwn (model X.prog X.w) X.A X.env X.xe) (hc : PT X c (rdT C mc)) (hb : PSs X body (rdS C mb)) : PS X (.While c body [] pos) (rdS C (dWh mc mb)) := (ps_while hp hc hb).imp fun _ _ _ => while_core
/-! ### raise -/
def dRaise (e : Err) : Dns := fun ρ S => .exc e ρ S
theorem sim_raise {x m : Str} {j : Nat} {er : Err} {p2 sp : Pos} (hc : X.calm = true) (tk : Takes X C.W) (hq : PySem.W.excIn X.K (C.errC er) [.type "ValueError", .type "Exception", .type "BaseException", .type "object"] "ValueError.__new__" = true)
    (gC : X.mg x = some (.ref (C.errC er))) (kC : PySem.W.keepIn X.K (.ref (C.errC er)) = true) (r : Raises X (.ref (C.errC er))) (hg : Gl X x) (hd : (x == ("__debug__" : Str)) = false) :
    PS X (.Raise (some (.Call (.Name x p) [.Constant (.str m) j p2] [] pos)) none sp) (rdS C (dRaise er)) :=
  (ps_raise hc tk (pmk_own PySem.F.excBase_ValueError hq gC kC r hg hd)).imp fun D σ H q => by
  obtain ⟨F, β, S, ρ, hr, e', s0, o⟩ := q
  exact o F β H σ ⟨FLe.refl _, List.prefix_refl _, hr, e', s0⟩
end
end Py
/-! Comprehensions; defs. -/
namespace Py
open PySem PySem.Spec L2

/-! ### the block's names -/
def wipeE (ρ : Env) : List Nat → Env
  | [] => ρ
  | v :: vs => (wipeE ρ vs).set v .un
theorem wipeE_length (ρ : Env) : ∀ vs : List Nat, (wipeE ρ vs).length = ρ.length
  | [] => rfl
  | v :: vs => by unfold wipeE; rw [List.length_set, wipeE_length ρ vs]
theorem wipeE_some {ρ : Env} {i : Nat} {x : Cell} (hx : x ≠ .un) : ∀ {vs : List Nat}, (wipeE ρ vs)[i]? = some x → ρ[i]? = some x ∧ i ∉ vs
  | [], h => ⟨h, by simp⟩
  | v :: vs, h => by
    unfold wipeE at h
    by_cases hi : v = i
    · subst hi
      by_cases hv : v < (wipeE ρ vs).length
      · rw [List.getElem?_set_self hv] at h; cases h; exact absurd rfl hx
      · rw [List.getElem?_eq_none (by simpa using hv)] at h; cases h
    · rw [List.getElem?_set_ne hi] at h
      obtain ⟨h1, h2⟩ := wipeE_some hx h
      exact ⟨h1, by simp only [List.mem_cons, not_or]; exact ⟨fun e => hi e.symm, h2⟩⟩
theorem wipe_out {σ : L2.St} {i : Nat} : ∀ {vs : List Nat}, i ∉ vs → (wipe σ vs)[i]? = σ[i]?
  | [], _ => rfl
  | v :: vs, h => by
    simp only [List.mem_cons, not_or] at h
    unfold wipe
    rw [List.getElem?_set_ne (Ne.symm h.1)]
    exact wipe_out h.2
theorem wipe_in {σ : L2.St} {i : Nat} : ∀ {vs : List Nat}, i ∈ vs → (wipe σ vs)[i]? = if i < σ.length then some none else none
  | [], h => by simp at h
  | v :: vs, h => by
    unfold wipe
    by_cases hi : v = i
    · subst hi
      by_cases hv : v < σ.length
      · rw [if_pos hv, List.getElem?_set_self (by rw [wipe_length]; exact hv)]
      · rw [if_neg hv, List.getElem?_eq_none (by rw [List.length_set, wipe_length]; omega)]
    · rw [List.getElem?_set_ne hi]
      exact wipe_in (by simpa [Ne.symm hi] using h)
theorem wipe_alike {σ σ2 : L2.St} {is vs : List Nat} (h : Alike is (wipe σ vs) σ2) (hs : ∀ i ∈ is, i ∈ vs) : wipe σ2 vs = wipe σ vs := by
  apply List.ext_getElem?
  intro j
  by_cases hj : j ∈ vs
  · rw [wipe_in hj, wipe_in hj, h.1, wipe_length]
  · rw [wipe_out hj, h.2 j (fun z => hj (hs j z))]
theorem ERel.wipe {xA : Addr} {K : PySem.W.Frag} {F H0 H : Hp} {β : List Addr} {ρ : Env} {σ : L2.St} (e : ERel K F β H0 xA H ρ σ) (vs : List Nat) : ERel K F β H0 xA H (wipeE ρ vs) (wipe σ vs) where
  len := by rw [wipeE_length, wipe_length]; exact e.len
  fz := fun i v h => by
    obtain ⟨h1, h2⟩ := wipeE_some (x := .fz v) (fun z => by cases z) h
    obtain ⟨w, q1, q2⟩ := e.fz i v h1
    exact ⟨w, by rw [wipe_out h2]; exact q1, q2⟩
  ow := by
    obtain ⟨α, w1, w2⟩ := e.ow
    refine ⟨α, fun i v h => ?_, fun i j v v' h h' => w2 i j v v' (wipeE_some (x := .ow v) (fun z => by cases z) h).1 (wipeE_some (x := .ow v') (fun z => by cases z) h').1⟩
    obtain ⟨h1, h2⟩ := wipeE_some (x := .ow v) (fun z => by cases z) h
    obtain ⟨q1, q2⟩ := w1 i v h1
    exact ⟨by rw [wipe_out h2]; exact q1, q2⟩
  ex := fun i h => by
    obtain ⟨h1, h2⟩ := wipeE_some (x := .ex) (fun z => by cases z) h
    rw [wipe_out h2]; exact e.ex i h1

/-! ### [e for t in w if c] -/
def compD (t : Dt) (c e : Dn) : List PV → Env → Store → Res (List PV)
  | [], _, S => .ok [] S
  | v :: vs, ρ, S => match t v ρ with
    | none => .bad
    | some ρ1 => match c ρ1 S with
      | .ok (.bl true) S1 => match e ρ1 S1 with
        | .ok y S2 => match compD t c e vs ρ S2 with
          | .ok ys S3 => .ok (y :: ys) S3
          | _ => .bad
        | _ => .bad
      | .ok (.bl false) S1 => compD t c e vs ρ S1
      | _ => .bad
def dLc (w : Dw) (t : Dt) (c e : Dn) (own : List Nat) : Dn := fun ρ S => bnd (w ρ S) fun vs S1 => match compD t c e vs (wipeE ρ own) S1 with
  | .ok ys S2 => .ok (.lst ys) S2
  | _ => .bad
/-- within a block nothing is raised -/
abbrev CC.blk (C : CC) : CC := { C with W := fun _ _ _ _ => False }
def dTrue : Dn := fun _ S => .ok (.bl true) S
section
variable {X : Cx} {C : CC}
theorem yes_core {σ : L2.St} {H : Hp} {Q : Bool → Hp → Prop} (q : rdT C dTrue σ H Q) : tYes σ H Q := by
  obtain ⟨F, β, S, ρ, hr, er, s0, o⟩ := q
  obtain ⟨b, e, q⟩ := o F β H (Stp.refl _ _ _) hr
  cases e
  exact q
theorem lc_core' {wi : Dw} {g : TG} {t : Dt} {mc me : Dn} {own is : List Nat} (hd : TgD C is g t) (his : ∀ i ∈ is, i ∈ own) {σ : L2.St} {H : Hp} {Q : VK} (q : rdN C (dLc wi t mc me own) σ H Q) :
    tLc (rdI C wi) g (rdT C.blk mc) (rd C.blk me) own σ H Q := by
  obtain ⟨F, β, S, ρ, hr, er, s0, o⟩ := q
  refine ⟨F, β, S, ρ, hr, er, s0, o.bind.mono fun vs S1 F1 β1 H1 s1 r1 o1 w hw hv hz D hD => ?_⟩
  have er1 := er.step s1
  have f1 := r1.fnone hD
  have b1 := r1.notIn hD
  obtain ⟨r2, s2⟩ := r1.newO (o := .lst []) hD
  -- the word: i turns are done, acc is made
  refine walk_lc hw (F := F1) (fun i Hc => ∃ F' β' S' acc accV, Stp F1 β1 H1 F' β' Hc ∧ HRel C.K F' β' S' Hc ∧ Hc D = some (.lst accV) ∧ F' D = none ∧ D ∉ β' ∧ Rps C.K F' β' acc accV ∧ accV.length ≤ i ∧
    (match compD t mc me (vs.drop i) (wipeE ρ own) S' with
      | .ok ys S2 => ∀ F2 β2 H2, Stp F1 β1 H1 F2 β2 H2 → HRel C.K F2 β2 S2 H2 → F2 D = none → D ∉ β2 → OwnAt C.K F2 β2 H2 D (.lst (acc ++ ys)) → Q (.ref D) H2
      | _ => False)) ?_ (fun i Hc _ ⟨F', β', S', acc, accV, s, r, _⟩ => s.mono.trans r.le) ?_ ?_
  · refine ⟨F1, β1, S1, [], [], s2, r2, upd_same, f1, b1, rfl, Nat.le_refl _, ?_⟩
    rw [List.drop_zero]
    cases ec : compD t mc me vs (wipeE ρ own) S1 with
    | ok ys S2 =>
      rw [ec] at o1
      exact fun F2 β2 H2 s' r' h1 h2 h3 => o1 F2 β2 H2 s' r' D (s1.fresh hD) h1 h2 h3
    | exc e S2 => rw [ec] at o1; exact o1
    | bad => rw [ec] at o1; exact o1
  · intro i x Hc hx ⟨F', β', S', acc, accV, s, r, hDc, hFD, hβD, ha, hl, ho⟩
    obtain ⟨v, hv1, hv2⟩ := hv.get' hx
    have hi : i < vs.length := (List.getElem?_eq_some_iff.mp hv1).1
    have ed : vs.drop i = v :: vs.drop (i + 1) := by
      rw [List.drop_eq_getElem_cons hi]
      congr 1
      exact (List.getElem?_eq_some_iff.mp hv1).2
    rw [ed] at ho
    unfold compD at ho
    cases et : t v (wipeE ρ own) with
    | none => rw [et] at ho; exact ho.elim
    | some ρ1 =>
      rw [et] at ho
      refine hd F' β' S' (wipeE ρ own) Hc (wipe σ own) v x ρ1 r ((er1.step s).wipe own) (Rp.mono s.mono s.pre v x hv2) et _ fun σ2 er2 al => ⟨wipe_alike al his, ?_⟩
      refine ⟨F', β', S', ρ1, r, er2, (s0.trans hr s1).trans r1 s, ?_⟩
      simp only at ho
      cases ec : mc ρ1 S' with
      | bad => rw [ec] at ho; exact ho.elim
      | exc e S2 => rw [ec] at ho; exact ho.elim
      | ok c S2 =>
        rw [ec] at ho
        intro F2 β2 H2 st2 r2
        have hD2 : H2 D = some (.lst accV) := st2.keep _ _ hDc hβD
        obtain ⟨hF2, hβ2⟩ := st2.sep _ _ hDc hFD hβD
        have s12 := s.trans r st2
        cases c with
        | bl b =>
          refine ⟨b, rfl, ?_⟩
          cases b with
          | false =>
            refine iteF ⟨F2, β2, S2, acc, accV, s12, r2, hD2, hF2, hβ2, Rps.mono st2.mono st2.pre _ _ ha, Nat.le_succ_of_le hl, ?_⟩
            simp only at ho
            exact ho
          | true =>
            simp only at ho
            refine iteT ⟨F2, β2, S2, ρ1, r2, er2.step st2, ((s0.trans hr s1).trans r1 s).trans r st2, ?_⟩
            cases ee : me ρ1 S2 with
            | bad => rw [ee] at ho; exact ho.elim
            | exc e S3 => rw [ee] at ho; exact ho.elim
            | ok y S3 =>
              rw [ee] at ho
              intro F3 β3 H3 st3 r3 wy hwy
              have hD3 : H3 D = some (.lst accV) := st3.keep _ _ hD2 hβ2
              obtain ⟨hF3, hβ3⟩ := st3.sep _ _ hD2 hF2 hβ2
              have hlt : accV.length < sizeLine := by omega
              refine ⟨accV, hD3, hlt, F3, β3, S3, acc ++ [y], accV ++ [wy], (s12.trans r2 st3).mutO hD, r3.mutO hF3 hβ3, upd_same, hF3, hβ3, ?_, by rw [List.length_append, List.length_singleton]; omega, ?_⟩
              · exact (Rps.mono (st2.mono.trans st3.mono) (List.IsPrefix.trans st2.pre st3.pre) _ _ ha).append (Rps.one hwy)
              · simp only at ho
                cases er' : compD t mc me (vs.drop (i + 1)) (wipeE ρ own) S3 with
                | bad => rw [er'] at ho; exact ho.elim
                | exc e S4 => rw [er'] at ho; exact ho.elim
                | ok ys S4 =>
                  rw [er'] at ho
                  simp only at ho ⊢
                  rw [List.append_assoc]
                  exact ho
        | _ => exact ho.elim
  · intro Hc ⟨F', β', S', acc, accV, s, r, hDc, hFD, hβD, ha, hl, ho⟩
    rw [← hv.length, List.drop_length] at ho
    have hlen : accV.length ≤ sizeLine := by rw [← hv.length] at hl; omega
    have ho : ∀ F2 β2 H2, Stp F1 β1 H1 F2 β2 H2 → HRel C.K F2 β2 S' H2 → F2 D = none → D ∉ β2 → OwnAt C.K F2 β2 H2 D (.lst (acc ++ [])) → Q (.ref D) H2 := ho
    rw [List.append_nil] at ho
    exact ho F' β' Hc s r hFD hβD ⟨accV, hDc, hlen, ha⟩
variable {elt tg iter : Expr} {ifs : List Expr} {scope : Scope} {own : List (Str × Nat)} {pos : Pos} {wi : Dw} {g : TG} {t : Dt} {mc me : Dn} {is : List Nat}
theorem sim_lc (hc : X.calm = true) (hN : X.N.Nodup) (hi : PI X tg iter (rdI C wi)) (ok : BlkOk X.N X.env.scope scope own) (hd : TgD C is g t) (his : ∀ i ∈ is, i ∈ own.map (·.2))
    (hg : ∀ (s : Shared) (H : Hp) (Ca : Addr) (cl : List (Str × Addr)) (fp : List Addr), PG (X.blk s H scope (compEnvC scope cl Ca X.env) fp) tg g)
    (ht : ∀ (s : Shared) (H : Hp) (Ca : Addr) (cl : List (Str × Addr)) (fp : List Addr), PTs (X.blk s H scope (compEnvC scope cl Ca X.env) fp) ifs (rdT C.blk mc))
    (he : ∀ (s : Shared) (H : Hp) (Ca : Addr) (cl : List (Str × Addr)) (fp : List Addr), PE (X.blk s H scope (compEnvC scope cl Ca X.env) fp) elt (rd C.blk me)) (hs : ∀ x, foldedSetIterable iter X.env x = pure x) :
    PE X (.ListComp elt [⟨tg, iter, ifs, 0⟩] scope pos) (rdN C (dLc wi t mc me (own.map (·.2)))) := (pe_lc hc hN hi ok hg ht he hs).imp fun _ _ _ => lc_core' hd his
/-- y = [..], on one line: its own, or still -/
theorem sim_setLcO {i : Nat} {y : Str} {py spos : Pos} (hc : X.calm = true) (hN : X.N.Nodup) (hy : X.N[i]? = some y) (hyl : X.env.scope.names.lookup y = some .local)
    (hsw : swapsWith (.ListComp elt [⟨tg, iter, ifs, 0⟩] scope pos) (some (.Name y py)) spos.line X.env = pure true) (hi : PI X tg iter (rdI C wi)) (ok : BlkOk X.N X.env.scope scope own) (hd : TgD C is g t) (his : ∀ i ∈ is, i ∈ own.map (·.2))
    (hg : ∀ (s : Shared) (H : Hp) (Ca : Addr) (cl : List (Str × Addr)) (fp : List Addr), PG (X.blk s H scope (compEnvC scope cl Ca X.env) fp) tg g)
    (ht : ∀ (s : Shared) (H : Hp) (Ca : Addr) (cl : List (Str × Addr)) (fp : List Addr), PTs (X.blk s H scope (compEnvC scope cl Ca X.env) fp) ifs (rdT C.blk mc))
    (he : ∀ (s : Shared) (H : Hp) (Ca : Addr) (cl : List (Str × Addr)) (fp : List Addr), PE (X.blk s H scope (compEnvC scope cl Ca X.env) fp) elt (rd C.blk me)) (hs : ∀ x, foldedSetIterable iter X.env x = pure x) :
    PS X (.Assign [.Name y py] (.ListComp elt [⟨tg, iter, ifs, 0⟩] scope pos) spos) (rdS C (dAsgO i (dLc wi t mc me (own.map (·.2))))) :=
  (ps_setLc hc hN hy hyl hsw hi ok hg ht he hs).imp fun D σ H q => lc_core' hd his (asgO_core q)
theorem rdN_rd {m : Dn} {σ : L2.St} {H : Hp} {Q : VK} (q : rd C m σ H Q) (hm : ∀ ρ S v S', m ρ S = .ok v S' → ∃ xs, v = .lst xs) : rdN C m σ H Q := by
  obtain ⟨F, β, S, ρ, r, er, s0, o⟩ := q
  refine ⟨F, β, S, ρ, r, er, s0, ?_⟩
  cases e : m ρ S with
  | ok v S' =>
    rw [e] at o
    obtain ⟨xs, rfl⟩ := hm _ _ _ _ e
    intro F' β' H' s r' a h1 h2 h3 h4
    exact frz_one s r' h1 h2 h3 h4 fun F2 β2 H2 s2 r2 w rw => o F2 β2 H2 s2 r2 w rw
  | exc er S' => rw [e] at o; exact o
  | bad => rw [e] at o; exact o
theorem dLc_lst (own : List Nat) (ρ : Env) (S : Store) (v : PV) (S' : Store) (h : dLc wi t mc me own ρ S = .ok v S') : ∃ xs, v = .lst xs := by
  unfold dLc at h
  cases e : wi ρ S with
  | ok vs S1 =>
    rw [e] at h
    simp only [bnd_ok] at h
    split at h
    · cases h; exact ⟨_, rfl⟩
    · cases h
  | exc er S1 => rw [e] at h; cases h
  | bad => rw [e] at h; cases h
theorem sim_setLc {i : Nat} {y : Str} {py spos : Pos} (hc : X.calm = true) (hN : X.N.Nodup) (hy : X.N[i]? = some y) (hyl : X.env.scope.names.lookup y = some .local)
    (hsw : swapsWith (.ListComp elt [⟨tg, iter, ifs, 0⟩] scope pos) (some (.Name y py)) spos.line X.env = pure true) (hi : PI X tg iter (rdI C wi)) (ok : BlkOk X.N X.env.scope scope own) (hd : TgD C is g t) (his : ∀ i ∈ is, i ∈ own.map (·.2))
    (hg : ∀ (s : Shared) (H : Hp) (Ca : Addr) (cl : List (Str × Addr)) (fp : List Addr), PG (X.blk s H scope (compEnvC scope cl Ca X.env) fp) tg g)
    (ht : ∀ (s : Shared) (H : Hp) (Ca : Addr) (cl : List (Str × Addr)) (fp : List Addr), PTs (X.blk s H scope (compEnvC scope cl Ca X.env) fp) ifs (rdT C.blk mc))
    (he : ∀ (s : Shared) (H : Hp) (Ca : Addr) (cl : List (Str × Addr)) (fp : List Addr), PE (X.blk s H scope (compEnvC scope cl Ca X.env) fp) elt (rd C.blk me)) (hs : ∀ x, foldedSetIterable iter X.env x = pure x) :
    PS X (.Assign [.Name y py] (.ListComp elt [⟨tg, iter, ifs, 0⟩] scope pos) spos) (rdS C (dAsg i (dLc wi t mc me (own.map (·.2))))) :=
  (ps_setLc hc hN hy hyl hsw hi ok hg ht he hs).imp fun D σ H q => lc_core' hd his (rdN_rd (asg_core q) fun _ _ _ _ => dLc_lst _ _ _ _ _)
end

/-! ### defs -/
def startE (n : Nat) (args : List PV) : Env := args.map .fz ++ List.replicate (n - args.length) .un
def flo (fl : Flo) : Res PV := match fl with
  | .nx _ S => .ok .non S
  | .ret v S => .ok v S
  | .exc e _ S => .exc e S
  | _ => .bad
/-- a def of n names, k parameters, by its body -/
def dDef (n k : Nat) (m : Dns) : List PV → Store → Res PV := fun args S => if args.length = k then flo (m (startE n args) S) else .bad
theorem dDef_arity (n k : Nat) (m : Dns) (args : List PV) (S : Store) (h : args.length ≠ k) : dDef n k m args S = .bad := by unfold dDef; rw [if_neg h]
theorem start_rel {xA : Addr} {K : PySem.W.Frag} {F H : Hp} {β : List Addr} {N : List Str} {args : List PV} {vs : List V} (h : Rps K F β args vs) (hl : args.length ≤ N.length) : ERel K F β H xA H (startE N.length args) (L2.start N vs) where
  len := by
    unfold startE L2.start
    rw [List.length_append, List.length_append, List.length_map, List.length_map, List.length_replicate, List.length_replicate, h.length]
  fz := fun i v e => by
    unfold startE at e
    unfold L2.start
    by_cases hi : i < args.length
    · rw [List.getElem?_append_left (by simpa using hi), List.getElem?_map] at e
      cases ea : args[i]? with
      | none => rw [ea] at e; cases e
      | some u =>
        rw [ea] at e
        cases e
        obtain ⟨w, h1, h2⟩ := h.get ea
        refine ⟨w, ?_, h2⟩
        rw [List.getElem?_append_left (by rw [List.length_map, ← h.length]; exact hi), List.getElem?_map, h1]; rfl
    · rw [List.getElem?_append_right (by simpa using hi), List.getElem?_replicate] at e
      split at e <;> cases e
  ow := by
    have no : ∀ (i : Nat) (v : PV), (startE N.length args)[i]? ≠ some (.ow v) := fun i v e => by
      unfold startE at e
      by_cases hi : i < args.length
      · rw [List.getElem?_append_left (by simpa using hi), List.getElem?_map] at e
        cases ea : args[i]? with
        | none => rw [ea] at e; cases e
        | some u => rw [ea] at e; cases e
      · rw [List.getElem?_append_right (by simpa using hi), List.getElem?_replicate] at e
        split at e <;> cases e
    exact ⟨fun _ => 0, fun i v e => absurd e (no i v), fun i j v v' e => absurd e (no i v)⟩
  ex := fun i e => by
    unfold startE at e
    by_cases hi : i < args.length
    · rw [List.getElem?_append_left (by simpa using hi), List.getElem?_map] at e
      cases ea : args[i]? with
      | none => rw [ea] at e; cases e
      | some u => rw [ea] at e; cases e
    · rw [List.getElem?_append_right (by simpa using hi), List.getElem?_replicate] at e
      split at e <;> cases e
section
variable {P : Program} {w : World} {K : PySem.W.Frag} {mg : Str → Option Value} {base : Heap}
/-- a def keeps its promise: its body does what m tells -/
theorem def_ok {name qual : Str} {params : Arguments} {body : List Stmt} {scope : Scope} {f : Addr} {fd : FuncData} {N ps : List Str} {k : Nat} {m : Dns} {errC : Err → Addr} (F : FunD K name qual params body scope [] [] f fd) (Sc : FnScope N ps scope) (hps : ps.length ≤ N.length)
    (hb : ∀ (X : Cx) (C : CC), X.prog = P → X.w = w → X.K = K → X.mg = mg → X.base = base → X.N = N → X.env.scope = scope → X.fn = (fun _ => true) → X.calm = true → Room k X.A → Takes X C.W → X.stack = X.env :: X.outer → X.env.frame = some X.env.locals → X.ex = [] →
      PassesOwn (model X.prog X.w) X.A X.env X.xe → C.K = K → C.errC = errC → PSs X body (rdS C m)) :
    FnOk P w K mg base (L2.CX P w) (k + 1) f fd ps (spSim K errC ps.length (dDef N.length ps.length m)) := by
  obtain ⟨oc, od, dV, kV, doc, pm, an, cdv, ct, osl, rfl, lk, hcd, _, _⟩ := F.ex
  refine fn_of lk hcd Sc (fun vs H Q E h => h.1) fun A outer s H vs Q E hr h => ?_
  obtain ⟨hl, F0, β0, S, args, r0, ra, h⟩ := h
  refine ⟨rdS ⟨K, errC, fun cls d _ H' => E cls d H', F0, β0, H, 0⟩ m, ?_, ?_⟩
  · exact hb _ _ rfl rfl rfl rfl rfl rfl rfl rfl rfl hr (takes_of rfl rfl rfl rfl) rfl rfl rfl (passes_of rfl) rfl rfl
  · have al : args.length = ps.length := by rw [ra.length]; exact hl
    refine ⟨F0, β0, S, startE N.length args, r0, start_rel ra (by omega), Stp.refl _ _ _, ?_⟩
    unfold dDef at h
    rw [if_pos al] at h
    cases e : m (startE N.length args) S with
    | nx ρ' S' => rw [e] at h; exact fun F' β' H' σ' sr => h F' β' H' sr.s0 sr.hr _ rfl
    | ret v S' => rw [e] at h; exact fun F' β' H' _ _ r' s' w rw => h F' β' H' s' r' w rw
    | brk ρ' S' => rw [e] at h; exact h.elim
    | ct ρ' S' => rw [e] at h; exact h.elim
    | exc er ρ' S' => rw [e] at h; exact fun F' β' H' σ' sr => h F' β' H' sr.s0 sr.hr
    | bad => rw [e] at h; exact h.elim
end
end Py
/-! try, except; isinstance. -/
namespace Py
open PySem PySem.Spec L2

def isEx : Cell → Bool
  | .ex => true
  | _ => false
def noEx (ρ : Env) : Bool := ρ.all fun c => !isEx c
theorem noEx_ok {ρ : Env} (h : noEx ρ = true) (i : Nat) : ρ[i]? ≠ some .ex := fun e => by
  have := List.all_eq_true.mp h _ (List.mem_of_getElem? e)
  cases this
/-- another wish, another exception: where no slot holds one -/
theorem ERel.chgX {K : PySem.W.Frag} {F H0 H : Hp} {xA yA : Addr} {β : List Addr} {ρ : Env} {σ : L2.St} (e : ERel K F β H0 xA H ρ σ) (h : noEx ρ = true) : ERel K F β H0 yA H ρ σ :=
  ⟨e.len, e.fz, e.ow, fun i q => absurd q (noEx_ok h i)⟩
theorem ERel.setX {K : PySem.W.Frag} {F H0 H : Hp} {xA : Addr} {β : List Addr} {ρ : Env} {σ : L2.St} (e : ERel K F β H0 xA H ρ σ) (h : noEx ρ = true) (i : Nat) (a : Addr) : ERel K F β H0 a H (ρ.set i .ex) (σ.set i (some (.ref a))) where
  len := by rw [List.length_set, List.length_set]; exact e.len
  fz := fun j u h => by
    by_cases hij : i = j
    · subst hij
      rw [List.getElem?_set_self (by have := (List.getElem?_eq_some_iff.mp h).1; rwa [List.length_set] at this)] at h
      cases h
    · rw [List.getElem?_set_ne hij] at h ⊢
      exact e.fz j u h
  ow := by
    obtain ⟨α, h1, h2⟩ := e.ow
    have old : ∀ (j : Nat) (u : PV), (ρ.set i .ex)[j]? = some (.ow u) → ρ[j]? = some (.ow u) ∧ i ≠ j := fun j u h => by
      by_cases hij : i = j
      · subst hij
        rw [List.getElem?_set_self (by have := (List.getElem?_eq_some_iff.mp h).1; rwa [List.length_set] at this)] at h
        cases h
      · rw [List.getElem?_set_ne hij] at h
        exact ⟨h, hij⟩
    refine ⟨α, fun j u h => ?_, fun j k u u' h h' => h2 j k u u' (old j u h).1 (old k u' h').1⟩
    obtain ⟨q1, q2⟩ := h1 j u (old j u h).1
    exact ⟨by rw [List.getElem?_set_ne (old j u h).2]; exact q1, q2⟩
  ex := fun j q => by
    by_cases hij : i = j
    · subst hij
      have hl : i < ρ.length := by have := (List.getElem?_eq_some_iff.mp q).1; rwa [List.length_set] at this
      rw [List.getElem?_set_self (by rw [← e.len]; exact hl)]
    · rw [List.getElem?_set_ne hij] at q
      exact absurd q (noEx_ok h j)
theorem ERel.clr {K : PySem.W.Frag} {F H0 H : Hp} {xA yA : Addr} {β : List Addr} {ρ : Env} {σ : L2.St} (e : ERel K F β H0 xA H ρ σ) (i : Nat) (h : noEx (ρ.set i .un) = true) : ERel K F β H0 yA H (ρ.set i .un) (σ.set i none) where
  len := by rw [List.length_set, List.length_set]; exact e.len
  fz := fun j u h => by
    by_cases hij : i = j
    · subst hij
      rw [List.getElem?_set_self (by have := (List.getElem?_eq_some_iff.mp h).1; rwa [List.length_set] at this)] at h
      cases h
    · rw [List.getElem?_set_ne hij] at h ⊢
      exact e.fz j u h
  ow := by
    obtain ⟨α, h1, h2⟩ := e.ow
    have old : ∀ (j : Nat) (u : PV), (ρ.set i .un)[j]? = some (.ow u) → ρ[j]? = some (.ow u) ∧ i ≠ j := fun j u h => by
      by_cases hij : i = j
      · subst hij
        rw [List.getElem?_set_self (by have := (List.getElem?_eq_some_iff.mp h).1; rwa [List.length_set] at this)] at h
        cases h
      · rw [List.getElem?_set_ne hij] at h
        exact ⟨h, hij⟩
    refine ⟨α, fun j u h => ?_, fun j k u u' h h' => h2 j k u u' (old j u h).1 (old k u' h').1⟩
    obtain ⟨q1, q2⟩ := h1 j u (old j u h).1
    exact ⟨by rw [List.getElem?_set_ne (old j u h).2]; exact q1, q2⟩
  ex := fun j q => absurd q (noEx_ok h j)

/-- the state that an except suite begins with, and what is left of its end -/
def enterX (i : Option Nat) (ρ : Env) : Env := match i with
  | some i => ρ.set i .ex
  | none => ρ
def leaveX (i : Option Nat) (fl : Flo) : Flo := match fl with
  | .nx ρ S => match i with
    | some i => if noEx (ρ.set i .un) = true then .nx (ρ.set i .un) S else .bad
    | none => if noEx ρ = true then .nx ρ S else .bad
  | .ret v S => .ret v S
  | _ => .bad
def dTry (body : Dns) (i : Option Nat) (kn : Err → Bool) (cl : Err → Bool) (h : Err → Dns) : Dns := fun ρ S => match body ρ S with
  | .exc er ρ' S' => if kn er = true then (if cl er = true then (if noEx ρ' = true then leaveX i (h er (enterX i ρ') S') else .bad) else .exc er ρ' S') else .bad
  | o => o
section
variable {X : Cx} {C : CC} {x n : Str} {c : Value} {body suite : List Stmt} {b₀ : Stmt} {np pos pos' : Pos} {m : Dns} {h : Err → Dns} {kn cl : Err → Bool} {i : Nat}
/-- the wish of the suite -/
def CC.sui (C : CC) (a : Addr) : CC := { C with W := fun _ _ _ _ => False, xA := a }
theorem try_core {i? : Option Nat} {W' : WX} {D : Ends} {σ : L2.St} {H : Hp} (q : rdS C (dTry m i? kn cl h) D σ H)
    (k : ∀ er F β S ρ σ' H', HRel C.K F β S H' → ERel C.K F β C.H0 C.xA H' ρ σ' → Stp C.F0 C.B0 C.H0 F β H' → kn er = true →
      (cl er = true → noEx ρ = true ∧ OutS C F β (leaveX i? (h er (enterX i? ρ) S)) D) → (cl er = false → C.W (.ref (C.errC er)) none σ' H') → W' (.ref (C.errC er)) none σ' H') : rdS { C with W := W' } m D σ H := by
  obtain ⟨F, β, S, ρ, hr, er, s0, o⟩ := q
  refine ⟨F, β, S, ρ, hr, er, s0, ?_⟩
  unfold dTry at o
  cases e : m ρ S with
  | nx ρ' S' => rw [e] at o; exact fun F' β' H' σ' s => o F' β' H' σ' ⟨s.mono, s.pre, s.hr, s.er, s.s0⟩
  | brk ρ' S' => rw [e] at o; exact fun F' β' H' σ' s => o F' β' H' σ' ⟨s.mono, s.pre, s.hr, s.er, s.s0⟩
  | ct ρ' S' => rw [e] at o; exact fun F' β' H' σ' s => o F' β' H' σ' ⟨s.mono, s.pre, s.hr, s.er, s.s0⟩
  | ret v S' => rw [e] at o; exact o
  | bad => rw [e] at o; exact o.elim
  | exc ex ρ' S' =>
    rw [e] at o
    have o : OutS C F β (if kn ex = true then (if cl ex = true then (if noEx ρ' = true then leaveX i? (h ex (enterX i? ρ') S') else .bad) else .exc ex ρ' S') else .bad) D := o
    by_cases hkn : kn ex = true
    case neg => rw [if_neg hkn] at o; exact o.elim
    rw [if_pos hkn] at o
    intro F' β' H' σ' s
    refine k ex F' β' S' ρ' σ' H' s.hr s.er s.s0 hkn (fun hc => ?_) (fun hc => ?_)
    · rw [if_pos hc] at o
      by_cases hx : noEx ρ' = true
      · rw [if_pos hx] at o
        exact ⟨hx, o.later s.mono s.pre⟩
      · rw [if_neg hx] at o; exact o.elim
    · rw [if_neg (by rw [hc]; exact Bool.false_ne_true)] at o
      exact o F' β' H' σ' ⟨s.mono, s.pre, s.hr, s.er, s.s0⟩
theorem sim_tryAs (hs : X.stack = X.env :: X.outer) (hf : X.env.frame = some X.env.locals) (hN : X.N.Nodup) (hi : X.N[i]? = some n) (hln : X.env.kindOf n = some .local) (hc : Names X x c) (tk : Takes X C.W) (hK : C.K = X.K)
    (hcl : ∀ er, kn er = true → PySem.W.exmOne X.K (.ref (C.errC er)) c = some (cl er))
    (hb : ∀ (W : WX) (pn : List (Addr × Obj)) (xe : Value → Shared → Prop), Takes (X.tr pn xe) W → PassesOwn (model X.prog X.w) X.A X.env xe → PSs (X.tr pn xe) body (rdS { C with W := W } m))
    (hsu : ∀ (er : Err) (a : Addr) (oe : Obj) (pn : List (Addr × Obj)), kn er = true → Zc (.ref (C.errC er)) none oe → (∃ vs, oe.data = .fields vs) → PSs (X.suite a ((a, oe) :: pn)) (b₀ :: suite) (rdS (C.sui a) (h er))) :
    PS X (.Try body [.ExceptHandler (some (.Name x np)) (some n) (b₀ :: suite) pos'] [] [] pos) (rdS C (dTry m (some i) kn cl h)) := by
  refine (ps_try_as (tb := fun W => rdS { C with W := W } m) (ts := fun a cls d D σ H => ∃ er, kn er = true ∧ cls = .ref (C.errC er) ∧ d = none ∧ rdS (C.sui a) (h er) D σ H) hs hf hN hi hln hc tk hb ?_).imp fun D σ H q => try_core q ?_
  · intro a oe cls d pn hz hfl
    refine ⟨fun pins s σ H D I q => ?_⟩
    obtain ⟨er, hkn, rfl, rfl, q⟩ := q
    exact (hsu er a oe pn hkn hz hfl).run pins s σ H D I q
  · intro er F β S ρ σ' H' hr e s0 hkn ht hf'
    refine ⟨cl er, hcl er hkn, fun hb' a ha => ?_, hf'⟩
    obtain ⟨hx, o⟩ := ht hb'
    refine ⟨er, hkn, rfl, rfl, F, β, S, ρ.set i .ex, hr, e.setX hx i a, s0, ?_⟩
    have o : OutS C F β (leaveX (some i) (h er (ρ.set i .ex) S)) D := o
    cases eh : h er (ρ.set i .ex) S with
    | nx ρ2 S2 =>
      rw [eh] at o
      intro F' β' H2 σ2 s
      have o : OutS C F β (if noEx (ρ2.set i .un) = true then .nx (ρ2.set i .un) S2 else .bad) D := o
      by_cases hx2 : noEx (ρ2.set i .un) = true
      · rw [if_pos hx2] at o
        exact o F' β' H2 _ ⟨s.mono, s.pre, s.hr, s.er.clr i hx2, s.s0⟩
      · rw [if_neg hx2] at o; exact o.elim
    | ret v S2 => rw [eh] at o; exact o
    | brk ρ2 S2 => rw [eh] at o; exact o.elim
    | ct ρ2 S2 => rw [eh] at o; exact o.elim
    | exc e ρ2 S2 => rw [eh] at o; exact o.elim
    | bad => rw [eh] at o; exact o.elim
theorem sim_tryOnly (hs : X.stack = X.env :: X.outer) (hf : X.env.frame = some X.env.locals) (hc : Names X x c) (tk : Takes X C.W) (hK : C.K = X.K)
    (hcl : ∀ er, kn er = true → PySem.W.exmOne X.K (.ref (C.errC er)) c = some (cl er))
    (hb : ∀ (W : WX) (pn : List (Addr × Obj)) (xe : Value → Shared → Prop), Takes (X.tr pn xe) W → PassesOwn (model X.prog X.w) X.A X.env xe → PSs (X.tr pn xe) body (rdS { C with W := W } m))
    (hsu : ∀ (er : Err) (a : Addr) (oe : Obj) (pn : List (Addr × Obj)), kn er = true → Zc (.ref (C.errC er)) none oe → (∃ vs, oe.data = .fields vs) → PSs (X.suite a ((a, oe) :: pn)) (b₀ :: suite) (rdS (C.sui a) (h er))) :
    PS X (.Try body [.ExceptHandler (some (.Name x np)) none (b₀ :: suite) pos'] [] [] pos) (rdS C (dTry m none kn cl h)) := by
  refine (ps_try_only (tb := fun W => rdS { C with W := W } m) (ts := fun a cls d D σ H => ∃ er, kn er = true ∧ cls = .ref (C.errC er) ∧ d = none ∧ rdS (C.sui a) (h er) D σ H) hs hf hc tk hb ?_).imp fun D σ H q => try_core q ?_
  · intro a oe cls d pn hz hfl
    refine ⟨fun pins s σ H D I q => ?_⟩
    obtain ⟨er, hkn, rfl, rfl, q⟩ := q
    exact (hsu er a oe pn hkn hz hfl).run pins s σ H D I q
  · intro er F β S ρ σ' H' hr e s0 hkn ht hf'
    refine ⟨cl er, hcl er hkn, fun hb' a ha => ?_, hf'⟩
    obtain ⟨hx, o⟩ := ht hb'
    refine ⟨er, hkn, rfl, rfl, F, β, S, ρ, hr, e.chgX hx, s0, ?_⟩
    have o : OutS C F β (leaveX none (h er ρ S)) D := o
    cases eh : h er ρ S with
    | nx ρ2 S2 =>
      rw [eh] at o
      intro F' β' H2 σ2 s
      have o : OutS C F β (if noEx ρ2 = true then .nx ρ2 S2 else .bad) D := o
      by_cases hx2 : noEx ρ2 = true
      · rw [if_pos hx2] at o
        exact o F' β' H2 _ ⟨s.mono, s.pre, s.hr, s.er.chgX hx2, s.s0⟩
      · rw [if_neg hx2] at o; exact o.elim
    | ret v S2 => rw [eh] at o; exact o
    | brk ρ2 S2 => rw [eh] at o; exact o.elim
    | ct ρ2 S2 => rw [eh] at o; exact o.elim
    | exc e ρ2 S2 => rw [eh] at o; exact o.elim
    | bad => rw [eh] at o; exact o.elim
end
/-! ### isinstance(e, X) in a suite -/
def dIsE (i : Nat) (b : Bool) : Dn := fun ρ S => match ρ[i]? with
  | some .ex => .ok (.bl b) S
  | _ => .bad
theorem sim_isE {X : Cx} {C : CC} {a D : Addr} {oe : Obj} {pn : List (Addr × Obj)} (Ec : ExcC X.K D) (hz : Zc (.ref D) none oe) (hf : ∃ vs, oe.data = .fields vs) {n x : Str} {i : Nat} {c : Addr} {b : Bool} {p1 p2 p3 pos : Pos} (hxa : C.xA = a)
    (hn : NameAt (X.suite a ((a, oe) :: pn)) n i) (hg : Gl X x) (hm : X.mg x = some (.ref c)) (hk : PySem.W.kitOne X.K (.ref D) (.ref c) = some b) (hgi : Gl X "isinstance") (hmi : X.mg "isinstance" = none) (hd : (x == ("__debug__" : Str)) = false) :
    PE (X.suite a ((a, oe) :: pn)) (.Call (.Name "isinstance" p1) [.Name n p2, .Name x p3] [] pos) (rd C (dIsE i b)) := by
  have hc := call_isE (pn := pn) (a := a) Ec hz hf
  refine (pe_callB (X := X.suite a ((a, oe) :: pn)) hc hgi hmi (by decide +kernel) (pa_cons (pe_var hn.at_ hn.vis hn.d1 hn.d2) (pa_cons (pe_glob (v := .ref c) hg hm rfl hd) pa_nil))).imp fun σ H Q q => ?_
  obtain ⟨F, β, S, ρ, r, er, s0, o⟩ := q
  unfold dIsE at o
  split at o
  · rename_i hi
    have e := er.ex i hi
    rw [hxa] at e
    exact ⟨_, e, .ref c, .ref c, b, rfl, fun u hu => hu, hk, o F β H (Stp.refl _ _ _) r _ rfl⟩
  · exact o.elim
/-! ### isinstance(x, T) of a value -/
def typeOfV : PV → Option String
  | .non => some "NoneType"
  | .bl _ => some "bool"
  | .int _ => some "int"
  | .str _ => some "str"
  | .tup _ => some "tuple"
  | .lst _ => some "list"
  | _ => none
/-- the types asked for -/
def isTy (t : String) (x : String) : Bool := t == x || (t == "bool" && x == "int")
def gIs (x : String) : G1 := fun v _ => (typeOfV v).map fun t => .bl (isTy t x)
theorem kits : ∀ t ∈ ["NoneType", "bool", "int", "str", "tuple", "list"], ∀ x ∈ ["bool", "int", "tuple"], kitB t x = some (isTy t x) := by decide +kernel
theorem typeOfV_mem {v : PV} {t : String} (h : typeOfV v = some t) : t ∈ ["NoneType", "bool", "int", "str", "tuple", "list"] := by
  cases v <;> simp only [typeOfV] at h <;> cases h <;> simp
theorem ty_rp {K : PySem.W.Frag} {F H : Hp} {β : List Addr} {v : PV} {w : V} {t : String} (l : FLe F H) (h : RpB K F β H v w) (e : typeOfV v = some t) : TyX K H w (.type t) := by
  cases v with
  | non => cases e; rw [h.non]; exact .base .non
  | bl b => cases e; rw [h.bl]; exact .base (.bl b)
  | int b => cases e; rw [h.int]; exact .base (.int b)
  | str b => cases e; rw [h.str]; exact .base (.str b)
  | tup xs =>
    cases e
    obtain ⟨a, vs, rfl, h1, _⟩ := h.tup
    rcases l.sqT h1 with (h1 | ⟨o, h1⟩) | ⟨o, its, n, h1, h2, _⟩
    · exact .base (.tup h1)
    · exact .fTuple h1
    · exact .kTuple h1 h2
  | lst xs =>
    cases e
    obtain ⟨a, vs, rfl, h1, _⟩ := h.lst l
    exact .base (.lst h1)
  | ref _ => cases e
  | scr _ => cases e
theorem sim_is {X : Cx} {C : CC} {a : Expr} {ma : Dn} {x : Str} {T : String} {p1 p2 pos : Pos} (hK : C.K = X.K) (hT : T ∈ ["bool", "int", "tuple"]) (hv : bootBuiltins x = some (.type T)) (hgx : Gl X x) (hmx : X.mg x = none) (hn : x ≠ "__name__") (hd : (x == ("__debug__" : Str)) = false)
    (hg : Gl X "isinstance") (hm : X.mg "isinstance" = none) (ha : PE X a (rdB C ma)) (hs : noStar a = true) : PE X (.Call (.Name "isinstance" p1) [a, .Name x p2] [] pos) (rd C (dOp1 (gIs T) ma)) :=
  (pe_callB (hK ▸ call_isi : CallR X (.builtin "isinstance") (rIsi C.K)) hg hm (by decide +kernel) (pa_cons ha (pa_cons (pe_bltn (v := .ty T) hgx hmx hv rfl hn hd) pa_nil) (star_cons hs)) (by decide) (by decide) (star_cons hs) rfl).imp fun σ H Q q => by
  obtain ⟨F, β, S, ρ, hr, er, s0, o⟩ := q
  refine ⟨F, β, S, ρ, hr, er, s0, o.bind.mono fun v S1 F1 β1 H1 s1 r1 o1 w rw => ?_⟩
  unfold lift1 gIs at o1
  cases e : typeOfV v with
  | none => rw [e] at o1; exact o1.elim
  | some t =>
    rw [e] at o1
    exact ⟨w, .ty T, .type t, .type T, isTy t T, rfl, .ty T, ty_rp r1.le rw e, kit_ty (kits t (typeOfV_mem e) T hT), o1 F1 β1 H1 (Stp.refl _ _ _) r1 _ rfl⟩
end Py
/-! From the text to the denotation: expressions. -/
namespace Py
open PySem PySem.Spec L2

/-! ### a boxed list -/
def dBox (m : Dn) : Dn := fun ρ S => bnd (m ρ S) fun v S1 => match v with
  | .lst xs => .ok (.ref S1.length) (S1 ++ [.lst xs])
  | _ => .bad
theorem box_core {C : CC} {m : Dn} {σ : L2.St} {H : Hp} {Q : VK} (q : rd C (dBox m) σ H Q) : rdN C m σ H Q := by
  obtain ⟨F, β, S, ρ, hr, er, s0, o⟩ := q
  refine ⟨F, β, S, ρ, hr, er, s0, ?_⟩
  unfold dBox at o
  cases em : m ρ S with
  | exc e' S1 => rw [em] at o; exact o
  | bad => rw [em] at o; exact o
  | ok v S1 =>
    rw [em] at o
    intro F1 β1 H1 s1 r1 a h1 h2 h3 h4
    cases v with
    | lst xs =>
      obtain ⟨vs, e1, hz, rp⟩ := h4
      have pr : β1 <+: β1 ++ [a] := List.prefix_append _ _
      refine o F1 (β1 ++ [a]) H1 ⟨s1.mono, List.IsPrefix.trans s1.pre pr, s1.keep, fun b u e e2 e3 => ?_, s1.there⟩ ⟨r1.le, ?_, ?_, fun b hb => ?_, fun n u b g1 g2 => ?_⟩ (.ref a) ⟨a, ?_, rfl⟩
      · obtain ⟨q1, q2⟩ := s1.sep b u e e2 e3
        refine ⟨q1, fun hm => ?_⟩
        rcases List.mem_append.mp hm with hm | hm
        · exact q2 hm
        · have : b = a := by simpa using hm
          rw [this, h1] at e; cases e
      · rw [List.length_append, List.length_append, r1.len]; rfl
      · rw [List.nodup_append]
        refine ⟨r1.nd, by simp, fun x hx y hy => ?_⟩
        have : y = a := by simpa using hy
        subst this
        exact fun z => h3 (by rw [← z]; exact hx)
      · rcases List.mem_append.mp hb with hb | hb
        · exact r1.bf b hb
        · have : b = a := by simpa using hb
          subst this; exact h2
      · by_cases hn : n < S1.length
        · rw [List.getElem?_append_left hn] at g1
          rw [List.getElem?_append_left (by rw [r1.len]; exact hn)] at g2
          exact (r1.box n u b g1 g2).mono (FLe.refl _) pr fun z ez => ez
        · have hn' : n = S1.length := by
            have := (List.getElem?_eq_some_iff.mp g1).1
            rw [List.length_append, List.length_singleton] at this
            omega
          subst hn'
          rw [List.getElem?_append_right (Nat.le_refl _), Nat.sub_self] at g1
          rw [List.getElem?_append_right (by rw [r1.len]; exact Nat.le_refl _), r1.len, Nat.sub_self] at g2
          cases g1; cases g2
          exact ⟨vs, e1, hz, Rps.mono (FLe.refl _) pr _ _ rp⟩
      · rw [List.getElem?_append_right (by rw [r1.len]; exact Nat.le_refl _), r1.len, Nat.sub_self]; rfl
    | _ => exact h4.elim
theorem sim_box {X : Cx} {C : CC} {e : Expr} {m : Dn} (h : PE X e (rdN C m)) : PE X e (rd C (dBox m)) := h.imp fun _ _ _ => box_core
/-! ### gcd -/
def dGcd (a b : Dn) : Dn := fun ρ S => bnd (a ρ S) fun v S1 => bnd (b ρ S1) fun u S2 => match v, u with
  | .int i, .int j => .ok (.int (Nat.gcd i.natAbs j.natAbs : Nat)) S2
  | _, _ => .bad
theorem sim_gcd {X : Cx} {C : CC} {a b : Expr} {ma mb : Dn} {x : Str} {p pos : Pos} (hg : Gl X x) (hm : X.mg x = some (.builtin "math.gcd")) (ha : PE X a (rd C ma)) (hb : PE X b (rd C mb)) (hs : noStar a = true) (hs' : noStar b = true) (hd : (x == ("__debug__" : Str)) = false) :
    PE X (.Call (.Name x p) [a, b] [] pos) (rd C (dGcd ma mb)) :=
  (pe_callBfun cr_gcd hg hm (pa_cons ha (pa_cons hb pa_nil (star_cons hs')) (star_cons hs)) hd (star_cons hs) (by rw [star_cons hs']; rfl)).imp fun σ H Q q => by
  obtain ⟨F, β, S, ρ, hr, er, s0, o⟩ := q
  refine ⟨F, β, S, ρ, hr, er, s0, o.bind.mono fun v S1 F1 β1 H1 s1 r1 o1 w rw => ?_⟩
  refine ⟨F1, β1, S1, ρ, r1, er.step s1, s0.trans hr s1, o1.bind.mono fun u S2 F2 β2 H2 s2 r2 o2 w2 rw2 => ?_⟩
  split at o2
  · cases rw; cases rw2
    exact ⟨_, _, rfl, o2 F2 β2 H2 (Stp.refl _ _ _) r2 _ rfl⟩
  · exact o2.elim

/-! ### what the translation knows -/
structure Sx where
  N : List Str
  sc : Scope
  /-- the module's defs: their numbers and arities -/
  fns : List (Str × Nat × Nat)
  /-- its constants -/
  glb : List (Str × PV)
  /-- its classes of errors -/
  errs : List (Str × Err)
  /-- names that the module does not bind -/
  free : List Str
  /-- names whose lists are their own -/
  own : List Str := []
  /-- where a new list is a boxed one -/
  box : List Pos := []
  calm : Bool := true
  /-- names that stand in cells and may be stored -/
  cells : List Str := []
  /-- in a suite: the name, its slot, the error that it holds -/
  exn : Option (Str × Nat × Err) := none
def kindIn (s : Sx) (x : Str) : Option NameKind := s.sc.names.lookup x
def isVis (s : Sx) (x : Str) : Bool := match kindIn s x with
  | some .local => true
  | some .cell => true
  | some .free => true
  | _ => false
def okName (x : Str) : Bool := !(x == ("__debug__" : Str)) && !(x == ("__classdict__" : Str))
def slot (s : Sx) (x : Str) : Option Nat := if isVis s x && okName x then s.N.findIdx? (· == x) else none
def isGl (s : Sx) (x : Str) : Bool := kindIn s x == some .globalImplicit
/-- e is in that class -/
def Err.is (e c : Err) : Bool := decide (c = .base) || decide (e = c)
structure CtxOk (X : Cx) (C : CC) (G : Nat → List PV → Store → Res PV) (k : Nat) (s : Sx) : Prop where
  hK : C.K = X.K
  hN : X.N = s.N
  nd : X.N.Nodup
  hs : X.env.scope = s.sc
  fn : ∀ x ∈ s.cells, X.fn x = true
  kind : X.env.scope.kind = .function
  units : X.A.units + 65 < cLine
  calm : s.calm = true → X.calm = true
  room : s.calm = true → Room k X.A
  tk : s.calm = true → Takes X C.W
  fns : ∀ x i n, s.fns.lookup x = some (i, n) → ∃ f fd ps, X.mg x = some (.ref f) ∧ PySem.W.keepIn X.K (.ref f) = true ∧ FnOk X.prog X.w X.K X.mg X.base (L2.CX X.prog X.w) k f fd ps (spSim X.K C.errC n (G i)) ∧ Binds X.K fd ps [] ∧ ∀ args S, args.length ≠ n → G i args S = .bad
  glb : ∀ x v, s.glb.lookup x = some v → ∃ u w, X.mg x = some u ∧ RelV w u ∧ ∀ F β, Rp X.K F β v w
  errs : ∀ x e, s.errs.lookup x = some e → X.mg x = some (.ref (C.errC e)) ∧ PySem.W.excIn X.K (C.errC e) [.type "ValueError", .type "Exception", .type "BaseException", .type "object"] "ValueError.__new__" = true ∧
    PySem.W.keepIn X.K (.ref (C.errC e)) = true ∧ PySem.W.subIn X.K (.ref (C.errC e)) (.type "BaseException") = some true ∧ PySem.W.typeIn X.K (.ref (C.errC e)) = some (.type "type") ∧ ExcC X.K (C.errC e)
  pair : ∀ x e y c, s.errs.lookup x = some e → s.errs.lookup y = some c → PySem.W.exmOne X.K (.ref (C.errC e)) (.ref (C.errC c)) = some (e.is c) ∧ PySem.W.kitOne X.K (.ref (C.errC e)) (.ref (C.errC c)) = some (e.is c)
  free : ∀ x ∈ s.free, X.mg x = none
  gcd : ("gcd" : Str) ∈ s.free ∨ X.mg "gcd" = some (.builtin "math.gcd")
  exn : ∀ x i e, s.exn = some (x, i, e) → (∃ y, s.errs.lookup y = some e) ∧ ∃ (X₀ : Cx) (oe : Obj) (pn : List (Addr × Obj)), X = X₀.suite C.xA ((C.xA, oe) :: pn) ∧ Zc (.ref (C.errC e)) none oe ∧ ∃ vs, oe.data = .fields vs
section
variable {X : Cx} {C : CC} {G : Nat → List PV → Store → Res PV} {k : Nat} {s : Sx} {x : Str} {i : Nat}
theorem CtxOk.name (h : CtxOk X C G k s) (e : slot s x = some i) : NameAt X x i := by
  unfold slot at e
  split at e
  · rename_i hc
    rw [Bool.and_eq_true] at hc
    obtain ⟨h1, h2⟩ := hc
    unfold okName at h2
    rw [Bool.and_eq_true] at h2
    have hx : s.N[i]? = some x := by
      obtain ⟨hi, hp, _⟩ := List.findIdx?_eq_some_iff_getElem.mp e
      rw [List.getElem?_eq_getElem hi]
      exact congrArg some (by simpa using hp)
    refine ⟨by rw [h.hN]; exact hx, ?_, by simpa using h2.1, by simpa using h2.2⟩
    unfold isVis kindIn at h1
    unfold Vis
    rw [h.hs]
    split at h1
    · exact .inl (by assumption)
    · exact .inr (.inl (by assumption))
    · exact .inr (.inr (by assumption))
    · cases h1
  · cases e
theorem CtxOk.gl (h : CtxOk X C G k s) (e : isGl s x = true) : Gl X x := by
  unfold isGl kindIn at e
  show X.env.scope.names.lookup x = some .globalImplicit
  rw [h.hs]
  simpa using e
end
/-! ### lists of parts -/
abbrev Tr := Sx → Expr → Option Dn
section
variable (f ft : Sx → Expr → Option Dn) (s : Sx)
def trB : Expr → Option Dn := fun e => match e with
  | .Name x _ => match slot s x with
    | some i => some (dBor i)
    | none => f s e
  | _ => f s e
def trAs : List Expr → Option Dna
  | [] => some dNil
  | e :: es => if noStar e = true then match f s e, trAs es with
    | some m, some ms => some (dCons m ms)
    | _, _ => none
    else none
def trAnd : List Expr → Option Dn
  | [] => none
  | [a] => f s a
  | a :: b :: r => match f s a, trAnd (b :: r) with
    | some m, some ms => some (dAnd m ms)
    | _, _ => none
def trOr : List Expr → Option Dn
  | [] => none
  | [a] => f s a
  | a :: b :: r => match f s a, trOr (b :: r) with
    | some m, some ms => some (dOr m ms)
    | _, _ => none
def trPart : Option Expr → Option (Env → Store → Res (Option Int))
  | none => some dNoPart
  | some e => (f s e).map dPart
end
/-- the translation of a kind of thing is right, over f -/
def OkE (G : Nat → List PV → Store → Res PV) (k : Nat) (f : Sx → Expr → Option Dn) : Prop := ∀ s X C e m, CtxOk X C G k s → f s e = some m → PE X e (rd C m)
def OkT (G : Nat → List PV → Store → Res PV) (k : Nat) (f : Sx → Expr → Option Dn) : Prop := ∀ s X C e m, CtxOk X C G k s → f s e = some m → PT X e (rdT C m)
section
variable {G : Nat → List PV → Store → Res PV} {k : Nat} {f ft : Sx → Expr → Option Dn} {s : Sx} {X : Cx} {C : CC}
theorem trB_ok (hf : OkE G k f) (h : CtxOk X C G k s) {e : Expr} {m : Dn} (q : trB f s e = some m) : PE X e (rdB C m) := by
  unfold trB at q
  split at q
  · split at q
    · rename_i i hi
      cases q
      exact sim_bor (h.name hi)
    · exact sim_B (hf s X C _ m h q)
  · exact sim_B (hf s X C _ m h q)
theorem trAs_ok (hf : OkE G k f) (h : CtxOk X C G k s) : ∀ {es : List Expr} {ms : Dna}, trAs f s es = some ms → PA X es (rdA C ms)
  | [], _, q => by cases q; exact simA_nil
  | e :: es, ms, q => by
    unfold trAs at q
    split at q
    · rename_i hn
      split at q
      · rename_i m ms' h1 h2
        cases q
        exact simA_cons (hf s X C e m h h1) (trAs_ok hf h h2) (star_cons hn)
      · cases q
    · cases q
theorem trAs_stars : ∀ {es : List Expr} {ms : Dna}, trAs f s es = some ms → es.all noStar = true
  | [], _, _ => rfl
  | e :: es, ms, q => by
    unfold trAs at q
    split at q
    · rename_i hn
      split at q
      · rename_i m ms' h1 h2
        rw [List.all_cons, hn, trAs_stars h2]; rfl
      · cases q
    · cases q
theorem all_plain {es : List Expr} {env : PySem.Env} {pos : Pos} (h : es.all noStar = true) : (backTo pos (starEach es env)).any (·.1) = false := by
  induction es with
  | nil => rfl
  | cons e es ih =>
    rw [List.all_cons, Bool.and_eq_true] at h
    rw [star_cons h.1]
    show (false || (backTo pos (starEach es env)).any (·.1)) = false
    rw [ih h.2]; rfl
theorem trAnd_ok (hf : OkE G k f) (h : CtxOk X C G k s) {pos : Pos} : ∀ {es : List Expr} {m : Dn}, trAnd f s es = some m → PE X (.BoolOp .And es pos) (rd C m)
  | [], _, q => by cases q
  | [a], m, q => simE_one (hf s X C a m h q)
  | a :: b :: r, m, q => by
    unfold trAnd at q
    split at q
    · rename_i m1 m2 h1 h2
      cases q
      exact simE_and (hf s X C a m1 h h1) (trAnd_ok hf h h2)
    · cases q
theorem trOr_ok (hf : OkE G k f) (h : CtxOk X C G k s) {pos : Pos} : ∀ {es : List Expr} {m : Dn}, trOr f s es = some m → PE X (.BoolOp .Or es pos) (rd C m)
  | [], _, q => by cases q
  | [a], m, q => simE_one (hf s X C a m h q)
  | a :: b :: r, m, q => by
    unfold trOr at q
    split at q
    · rename_i m1 m2 h1 h2
      cases q
      exact simE_or (hf s X C a m1 h h1) (trOr_ok hf h h2)
    · cases q
theorem trAndT_ok (hf : OkT G k ft) (h : CtxOk X C G k s) {pos : Pos} : ∀ {es : List Expr} {m : Dn}, trAnd ft s es = some m → PW X (.BoolOp .And es pos) (rdT C m)
  | [], _, q => by cases q
  | [a], m, q => simW_and1 (hf s X C a m h q)
  | a :: b :: r, m, q => by
    unfold trAnd at q
    split at q
    · rename_i m1 m2 h1 h2
      cases q
      exact simW_and (hf s X C a m1 h h1) (trAndT_ok hf h h2)
    · cases q
theorem trOrT_ok (hf : OkT G k ft) (h : CtxOk X C G k s) {pos : Pos} : ∀ {es : List Expr} {m : Dn}, trOr ft s es = some m → PW X (.BoolOp .Or es pos) (rdT C m)
  | [], _, q => by cases q
  | [a], m, q => simW_or1 (hf s X C a m h q)
  | a :: b :: r, m, q => by
    unfold trOr at q
    split at q
    · rename_i m1 m2 h1 h2
      cases q
      exact simW_or (hf s X C a m1 h h1) (trOrT_ok hf h h2)
    · cases q
theorem trPart_ok (hf : OkE G k f) (h : CtxOk X C G k s) {o : Option Expr} {m : Env → Store → Res (Option Int)} (q : trPart f s o = some m) : PO X o (rdO C m) := by
  unfold trPart at q
  split at q
  · cases q; exact simO_none
  · rename_i e
    cases e1 : f s e with
    | none => rw [e1] at q; cases q
    | some m1 => rw [e1] at q; cases q; exact simO_some (hf s X C e m1 h e1)
end
end Py
/-! list(range(..)), tuple(range(..)). -/
namespace Py
open PySem PySem.Spec L2

def dLW (w : Dw) : Dn := fun ρ S => bnd (w ρ S) fun vs S1 => .ok (.lst vs) S1
def dTW (w : Dw) : Dn := fun ρ S => bnd (w ρ S) fun vs S1 => .ok (.tup vs) S1
section
variable {X : Cx} {C : CC} {a b : Expr} {ma mb : Dn} {pos p p2 p3 : Pos}
theorem rg1_core {σ : L2.St} {F H : Hp} {β : List Addr} {S : Store} {ρ : Env} (hr : HRel C.K F β S H) (er : ERel C.K F β C.H0 C.xA H ρ σ) (s0 : Stp C.F0 C.B0 C.H0 F β H)
    {P : List PV → Store → Hp → List Addr → Hp → Prop} (o : Outc C F β H σ (dRng1 ma ρ S) P) {R : Int → Int → Hp → Prop}
    (k : ∀ i j S1 F1 β1 H1, RgOk i j → Stp F β H F1 β1 H1 → HRel C.K F1 β1 S1 H1 → P (rng i j) S1 F1 β1 H1 → R i j H1) : tRg1 (rd C ma) σ H R := by
  refine ⟨F, β, S, ρ, hr, er, s0, o.bind.mono fun v S1 F1 β1 H1 s1 r1 o1 w rw => ?_⟩
  split at o1
  · rename_i j
    split at o1
    · rename_i hc
      rw [Bool.and_eq_true] at hc
      have h1 := of_decide_eq_true hc.1
      have h2 := of_decide_eq_true hc.2
      cases rw
      exact ⟨j, rfl, k 0 j S1 F1 β1 H1 ⟨by decide, by decide, h1, by omega, by omega⟩ s1 r1 (o1 F1 β1 H1 (Stp.refl _ _ _) r1)⟩
    · exact o1.elim
  · exact o1.elim
theorem rg2_core {σ : L2.St} {F H : Hp} {β : List Addr} {S : Store} {ρ : Env} (hr : HRel C.K F β S H) (er : ERel C.K F β C.H0 C.xA H ρ σ) (s0 : Stp C.F0 C.B0 C.H0 F β H)
    {P : List PV → Store → Hp → List Addr → Hp → Prop} (o : Outc C F β H σ (dRng2 ma mb ρ S) P) {R : Int → Int → Hp → Prop}
    (k : ∀ i j S1 F1 β1 H1, RgOk i j → Stp F β H F1 β1 H1 → HRel C.K F1 β1 S1 H1 → P (rng i j) S1 F1 β1 H1 → R i j H1) : tRg2 (rd C ma) (rd C mb) σ H R := by
  refine ⟨F, β, S, ρ, hr, er, s0, o.bind.mono fun v S1 F1 β1 H1 s1 r1 o1 w rw => ?_⟩
  refine ⟨F1, β1, S1, ρ, r1, er.step s1, s0.trans hr s1, o1.bind.mono fun u S2 F2 β2 H2 s2 r2 o2 w2 rw2 => ?_⟩
  split at o2
  · rename_i i j
    split at o2
    · rename_i hc
      simp only [Bool.and_eq_true, decide_eq_true_eq] at hc
      obtain ⟨⟨⟨⟨h1, h2⟩, h3⟩, h4⟩, h5⟩ := hc
      cases rw
      cases rw2
      exact ⟨i, j, rfl, rfl, k i j S2 F2 β2 H2 ⟨h1, h2, h3, h4, by omega⟩ (s1.trans r1 s2) r2 (o2 F2 β2 H2 (Stp.refl _ _ _) r2)⟩
    · exact o2.elim
  · exact o2.elim
def RgC (C : CC) (w : Dw) (te : L2.St → Hp → (Int → Int → Hp → Prop) → Prop) : Prop := ∀ (σ : L2.St) (F H : Hp) (β : List Addr) (S : Store) (ρ : Env), HRel C.K F β S H → ERel C.K F β C.H0 C.xA H ρ σ → Stp C.F0 C.B0 C.H0 F β H →
  ∀ (P : List PV → Store → Hp → List Addr → Hp → Prop), Outc C F β H σ (w ρ S) P → ∀ (R : Int → Int → Hp → Prop), (∀ i j S1 F1 β1 H1, RgOk i j → Stp F β H F1 β1 H1 → HRel C.K F1 β1 S1 H1 → P (rng i j) S1 F1 β1 H1 → R i j H1) → te σ H R
theorem rgc1 : RgC C (dRng1 ma) (tRg1 (rd C ma)) := fun σ F H β S ρ hr er s0 P o R k => rg1_core hr er s0 o k
theorem rgc2 : RgC C (dRng2 ma mb) (tRg2 (rd C ma) (rd C mb)) := fun σ F H β S ρ hr er s0 P o R k => rg2_core hr er s0 o k
theorem rg_sz {i j : Int} (h : RgOk i j) : (rgV i j).length ≤ sizeLine := by
  rw [rgV_length, sizeLine_eq]; exact h.2.2.2.2
variable {e : Expr} {w : Dw} {te : L2.St → Hp → (Int → Int → Hp → Prop) → Prop}
theorem sim_lRgN (hc : X.calm = true) (hg : Gl X "list") (hm : X.mg "list" = none) (he : PRg X e te) (hR : RgC C w te) (hs : noStar e = true) : PE X (.Call (.Name "list" p) [e] [] pos) (rdN C (dLW w)) :=
  (pe_listRg hc hg hm he (star_cons hs)).imp fun σ H Q q => by
    obtain ⟨F, β, S, ρ, hr, er, s0, o⟩ := q
    refine hR σ F H β S ρ hr er s0 _ o.bind _ fun i j S1 F1 β1 H1 ok s1 r1 pq => ⟨ok, fun l hl => ?_⟩
    obtain ⟨n1, n2⟩ := r1.newO (o := .lst (rgV i j)) hl
    exact pq _ _ _ n2 n1 l (s1.fresh hl) (r1.fnone hl) (r1.notIn hl) ⟨rgV i j, upd_same, rg_sz ok, Rps.rng _⟩
theorem sim_lRg (hc : X.calm = true) (hg : Gl X "list") (hm : X.mg "list" = none) (he : PRg X e te) (hR : RgC C w te) (hs : noStar e = true) : PE X (.Call (.Name "list" p) [e] [] pos) (rd C (dLW w)) :=
  (pe_listRg hc hg hm he (star_cons hs)).imp fun σ H Q q => by
    obtain ⟨F, β, S, ρ, hr, er, s0, o⟩ := q
    refine hR σ F H β S ρ hr er s0 _ o.bind _ fun i j S1 F1 β1 H1 ok s1 r1 pq => ⟨ok, fun l hl => ?_⟩
    obtain ⟨n1, n2⟩ := r1.newO (o := .lst (rgV i j)) hl
    exact frz_one n2 n1 hl (r1.fnone hl) (r1.notIn hl) (show OwnAt C.K F1 β1 (upd H1 l (.lst (rgV i j))) l (.lst (rng i j)) from ⟨rgV i j, upd_same, rg_sz ok, Rps.rng _⟩) pq
theorem sim_tRg (hc : X.calm = true) (hg : Gl X "tuple") (hm : X.mg "tuple" = none) (he : PRg X e te) (hR : RgC C w te) (hs : noStar e = true) : PE X (.Call (.Name "tuple" p) [e] [] pos) (rd C (dTW w)) :=
  (pe_tupRg hc hg hm he (star_cons hs)).imp fun σ H Q q => by
    obtain ⟨F, β, S, ρ, hr, er, s0, o⟩ := q
    refine hR σ F H β S ρ hr er s0 _ o.bind _ fun i j S1 F1 β1 H1 ok s1 r1 pq => ⟨ok, fun l hl => ?_⟩
    obtain ⟨n1, n2⟩ := r1.newF (o := .tup (rgV i j)) hl
    exact pq _ _ _ n2 n1 _ ⟨l, rgV i j, rfl, SqT.of upd_same, rg_sz ok, Rps.mono n2.mono n2.pre _ _ (Rps.rng _)⟩
end
end Py
/-! From the text to the denotation: expressions, together. -/
namespace Py
open PySem PySem.Spec L2

def isStore (s : Sx) (x : Str) : Bool := match kindIn s x with
  | some .local => true
  | some .cell => s.cells.contains x
  | _ => false
def slotS (s : Sx) (x : Str) : Option Nat := if isStore s x then s.N.findIdx? (· == x) else none
def slotsS (s : Sx) : List Expr → Option (List Nat)
  | [] => some []
  | .Name x _ :: es => match slotS s x, slotsS s es with
    | some i, some is => some (i :: is)
    | _, _ => none
  | _ :: _ => none
/-- a target: its slots, what it does -/
def trTg (s : Sx) : Expr → Option (List Nat × Dt)
  | .Name x _ => (slotS s x).map fun i => ([i], tN i)
  | .Tuple es _ _ => (slotsS s es).map fun is => (is, tT is)
  | _ => none
def gOf (K : PySem.W.Frag) : Expr → List Nat → TG
  | .Tuple _ _ _, is => gTup K is.length (gNames is)
  | _, is => gName (is.headD 0)
section
variable {X : Cx} {C : CC} {G : Nat → List PV → Store → Res PV} {k : Nat} {s : Sx} {x : Str} {i : Nat}
theorem CtxOk.store (h : CtxOk X C G k s) (e : slotS s x = some i) : StoreAt X x i := by
  unfold slotS at e
  split at e
  · rename_i hc
    have hx : s.N[i]? = some x := by
      obtain ⟨hi, hp, _⟩ := List.findIdx?_eq_some_iff_getElem.mp e
      rw [List.getElem?_eq_getElem hi]
      exact congrArg some (by simpa using hp)
    unfold isStore kindIn at hc
    have hs : X.env.scope.names = s.sc.names := by rw [h.hs]
    split at hc
    · rename_i hk
      exact ⟨h.nd, by rw [h.hN]; exact hx, .inl (by rw [hs]; exact hk), .inr (by rw [hs]; exact hk)⟩
    · rename_i hk
      exact ⟨h.nd, by rw [h.hN]; exact hx, .inr (by rw [hs]; exact hk), .inl (h.fn x (by simpa using hc))⟩
    · cases hc
  · cases e
theorem CtxOk.names (h : CtxOk X C G k s) : ∀ {es : List Expr} {is : List Nat}, slotsS s es = some is → NamesAt X es is
  | [], _, e => by cases e; exact .nil
  | .Name x _ :: es, is, e => by
    unfold slotsS at e
    split at e
    · rename_i i is' h1 h2
      cases e
      exact .cons (h.store h1) (h.names h2)
    · cases e
theorem trTg_pg (h : CtxOk X C G k s) (hc : X.calm = true) {tg : Expr} {is : List Nat} {t : Dt} (e : trTg s tg = some (is, t)) : PG X tg (gOf X.K tg is) := by
  unfold trTg at e
  split at e
  · rename_i x p
    cases q : slotS s x with
    | none => rw [q] at e; cases e
    | some i =>
      rw [q] at e; cases e
      have st := h.store q
      exact pg_name st.nd st.at_ st.loc st.fn
  · rename_i es kk p
    cases q : slotsS s es with
    | none => rw [q] at e; cases e
    | some js =>
      rw [q] at e; cases e
      exact pg_names hc (h.names q)
  · cases e
theorem trTg_d {tg : Expr} {is : List Nat} {t : Dt} (e : trTg s tg = some (is, t)) : TgD C is (gOf C.K tg is) t := by
  unfold trTg at e
  split at e
  · rename_i x p
    cases q : slotS s x with
    | none => rw [q] at e; cases e
    | some i => rw [q] at e; cases e; exact tgd_name
  · rename_i es kk p
    cases q : slotsS s es with
    | none => rw [q] at e; cases e
    | some js => rw [q] at e; cases e; exact tgd_tup
  · cases e
theorem trTg_ok (h : CtxOk X C G k s) (hc : X.calm = true) {tg : Expr} {is : List Nat} {t : Dt} (e : trTg s tg = some (is, t)) : TgOk X C tg (gOf C.K tg is) t := ⟨h.hK ▸ trTg_pg h hc e, is, trTg_d e⟩
end
/-! ### comprehensions -/
def notSet : Expr → Bool
  | .Set _ _ _ => false
  | _ => true
theorem notSet_pure {e : Expr} {env : PySem.Env} (h : notSet e = true) : ∀ x, foldedSetIterable e env x = pure x := by
  intro x
  cases e <;> first | rfl | (exact absurd h (by simp [notSet]))
section
variable (f ft : Sx → Expr → Option Dn) (s : Sx)
def trI : Expr → Option Dw := fun e => match e with
  | .Call (.Name r _) [a] [] _ => if decide (r = ("range" : Str)) && isGl s "range" && s.free.contains "range" && noStar a then (f s a).map dRng1 else (f s e).map dSeqI
  | .Call (.Name r _) [a, b] [] _ => if decide (r = ("range" : Str)) && isGl s "range" && s.free.contains "range" && noStar a && noStar b then (match f s a, f s b with
    | some ma, some mb => some (dRng2 ma mb)
    | _, _ => none) else (f s e).map dSeqI
  | _ => (f s e).map dSeqI
def trRg : Expr → Option Dw := fun e => match e with
  | .Call (.Name r _) [a] [] _ => if decide (r = ("range" : Str)) && isGl s "range" && s.free.contains "range" && noStar a && s.calm then (f s a).map dRng1 else none
  | .Call (.Name r _) [a, b] [] _ => if decide (r = ("range" : Str)) && isGl s "range" && s.free.contains "range" && noStar a && noStar b && s.calm then (match f s a, f s b with
    | some ma, some mb => some (dRng2 ma mb)
    | _, _ => none) else none
  | _ => none
def ownOf (scope : Scope) : List (Str × Nat) := scope.names.filterMap fun y => match y.2 with
  | .local => (s.N.findIdx? (· == y.1)).map fun i => (y.1, i)
  | .cell => (s.N.findIdx? (· == y.1)).map fun i => (y.1, i)
  | _ => none
def blkSx (scope : Scope) : Sx := { s with sc := relS scope s.sc, cells := (scope.names.filter fun y => y.2 == .cell).map (·.1), exn := none }
def trIf (s : Sx) : List Expr → Option Dn
  | [] => some dTrue
  | [c] => ft s c
  | _ => none
def trLc (elt : Expr) (gens : List Comprehension) (scope : Scope) : Option Dn := match gens with
  | [⟨tg, iter, ifs, a⟩] => if s.calm && decide (a = 0) && blkC s.N s.sc scope (ownOf s scope) && notSet iter then
      match trI f s iter, trTg (blkSx s scope) tg, trIf ft (blkSx s scope) ifs, f (blkSx s scope) elt with
      | some w, some (is, t), some c, some e => if is.all fun i => ((ownOf s scope).map (·.2)).contains i then some (dLc w t c e ((ownOf s scope).map (·.2))) else none
      | _, _, _, _ => none
    else none
  | _ => none
end
section
variable {G : Nat → List PV → Store → Res PV} {k : Nat} {f ft : Sx → Expr → Option Dn} {s : Sx} {X : Cx} {C : CC}
theorem CtxOk.blk (h : CtxOk X C G k s) (hc : s.calm = true) {scope : Scope} (ok : BlkOk X.N X.env.scope scope (ownOf s scope)) (st : Shared) (H : Hp) (Ca : Addr) (cl : List (Str × Addr)) (fp : List Addr) :
    CtxOk (X.blk st H scope (compEnvC scope cl Ca X.env) fp) C.blk G k (blkSx s scope) where
  hK := h.hK
  hN := h.hN
  nd := h.nd
  hs := by
    show (compEnvC scope cl Ca X.env).scope = relS scope s.sc
    rw [← h.hs]; rfl
  fn := fun x hx => by
    show (scope.names.lookup x == some .cell) = true
    obtain ⟨y, hy, rfl⟩ := List.mem_map.mp hx
    obtain ⟨hy1, hy2⟩ := List.mem_filter.mp hy
    rw [ok.uniq y hy1]
    have : y.2 = .cell := by simpa using hy2
    rw [this]; rfl
  kind := ok.kind
  units := h.units
  calm := h.calm
  room := h.room
  tk := fun _ => takes0
  fns := h.fns
  glb := h.glb
  errs := h.errs
  pair := h.pair
  free := h.free
  gcd := h.gcd
  exn := fun _ _ _ e => nomatch e
theorem trI_ok (hf : OkE G k f) (h : CtxOk X C G k s) {tg e : Expr} {w : Dw} (q : trI f s e = some w) : PI X tg e (rdI C w) := by
  have plain : ∀ {e : Expr} {w : Dw}, (f s e).map dSeqI = some w → PI X tg e (rdI C w) := fun {e w} q => by
    cases e1 : f s e with
    | none => rw [e1] at q; cases q
    | some m => rw [e1] at q; cases q; exact sim_iSeq h.hK (hf s X C e m h e1)
  unfold trI at q
  split at q
  · rename_i r p a pos
    split at q
    · rename_i hc
      simp only [Bool.and_eq_true, decide_eq_true_eq] at hc
      obtain ⟨⟨⟨rfl, h2⟩, h3⟩, h4⟩ := hc
      cases e1 : f s a with
      | none => rw [e1] at q; cases q
      | some m => rw [e1] at q; cases q; exact sim_iRng1 (h.gl h2) (h.free _ (by simpa using h3)) (hf s X C a m h e1) h4
    · exact plain q
  · rename_i r p a b pos
    split at q
    · rename_i hc
      simp only [Bool.and_eq_true, decide_eq_true_eq] at hc
      obtain ⟨⟨⟨⟨rfl, h2⟩, h3⟩, h4⟩, h5⟩ := hc
      split at q
      · rename_i ma mb e1 e2
        cases q
        exact sim_iRng2 (h.gl h2) (h.free _ (by simpa using h3)) (hf s X C a ma h e1) (hf s X C b mb h e2) h4 h5
      · cases q
    · exact plain q
  · exact plain q
theorem trRg_ok (hf : OkE G k f) (h : CtxOk X C G k s) {e : Expr} {w : Dw} (q : trRg f s e = some w) : ∃ te, PRg X e te ∧ RgC C w te ∧ noStar e = true ∧ X.calm = true := by
  unfold trRg at q
  split at q
  · rename_i r p a pos
    split at q
    · rename_i hc
      simp only [Bool.and_eq_true, decide_eq_true_eq] at hc
      obtain ⟨⟨⟨⟨rfl, h2⟩, h3⟩, h4⟩, h5⟩ := hc
      cases e1 : f s a with
      | none => rw [e1] at q; cases q
      | some m => rw [e1] at q; cases q; exact ⟨_, prg_1 (h.gl h2) (h.free _ (by simpa using h3)) (hf s X C a m h e1) (star_cons h4), rgc1, rfl, h.calm h5⟩
    · cases q
  · rename_i r p a b pos
    split at q
    · rename_i hc
      simp only [Bool.and_eq_true, decide_eq_true_eq] at hc
      obtain ⟨⟨⟨⟨⟨rfl, h2⟩, h3⟩, h4⟩, h5⟩, h6⟩ := hc
      split at q
      · rename_i ma mb e1 e2
        cases q
        exact ⟨_, prg_2 (h.gl h2) (h.free _ (by simpa using h3)) (hf s X C a ma h e1) (hf s X C b mb h e2) (star_cons h4) (star_cons h5) (by rw [star_cons h5]; rfl), rgc2, rfl, h.calm h6⟩
      · cases q
    · cases q
  · cases q
theorem trIf_ok (hf : OkT G k ft) (h : CtxOk X C G k s) {ifs : List Expr} {m : Dn} (q : trIf ft s ifs = some m) : PTs X ifs (rdT C m) := by
  unfold trIf at q
  split at q
  · cases q
    exact ⟨fun pins s σ H Q I hw => pts_nil.run pins s σ H Q I (yes_core hw)⟩
  · rename_i c
    exact pts_one (hf s X C c m h q)
  · cases q
/-- what a comprehension's rules ask, all in one -/
theorem trLc_parts (hf : OkE G k f) (hft : OkT G k ft) (h : CtxOk X C G k s) {elt : Expr} {gens : List Comprehension} {scope : Scope} {m : Dn} (q : trLc f ft s elt gens scope = some m) :
    ∃ tg iter ifs w t mc me is, gens = [⟨tg, iter, ifs, 0⟩] ∧ X.calm = true ∧ PI X tg iter (rdI C w) ∧ BlkOk X.N X.env.scope scope (ownOf s scope) ∧ TgD C is (gOf C.K tg is) t ∧ (∀ i ∈ is, i ∈ (ownOf s scope).map (·.2)) ∧
      (∀ (st : Shared) (H : Hp) (Ca : Addr) (cl : List (Str × Addr)) (fp : List Addr), PG (X.blk st H scope (compEnvC scope cl Ca X.env) fp) tg (gOf C.K tg is)) ∧
      (∀ (st : Shared) (H : Hp) (Ca : Addr) (cl : List (Str × Addr)) (fp : List Addr), PTs (X.blk st H scope (compEnvC scope cl Ca X.env) fp) ifs (rdT C.blk mc)) ∧
      (∀ (st : Shared) (H : Hp) (Ca : Addr) (cl : List (Str × Addr)) (fp : List Addr), PE (X.blk st H scope (compEnvC scope cl Ca X.env) fp) elt (rd C.blk me)) ∧ (∀ x, foldedSetIterable iter X.env x = pure x) ∧
      m = dLc w t mc me ((ownOf s scope).map (·.2)) := by
  unfold trLc at q
  split at q
  · rename_i tg iter ifs a
    split at q
    · rename_i hc
      simp only [Bool.and_eq_true, decide_eq_true_eq] at hc
      obtain ⟨⟨⟨h1, rfl⟩, h3⟩, h4⟩ := hc
      split at q
      · rename_i w is t mc me e1 e2 e3 e4
        split at q
        · rename_i hall
          cases q
          have ok : BlkOk X.N X.env.scope scope (ownOf s scope) := by rw [h.hN, h.hs]; exact blkOk_by h3
          refine ⟨tg, iter, ifs, w, t, mc, me, is, rfl, h.calm h1, trI_ok hf h e1, ok, trTg_d e2, fun i hi => ?_, fun st H Ca cl fp => ?_, fun st H Ca cl fp => ?_, fun st H Ca cl fp => ?_, notSet_pure h4, rfl⟩
          · have := List.all_eq_true.mp hall i hi
            simpa using this
          · rw [h.hK]
            exact trTg_pg (h.blk h1 ok st H Ca cl fp) (h.calm h1) e2
          · exact trIf_ok hft (h.blk h1 ok st H Ca cl fp) e3
          · exact hf _ _ _ _ _ (h.blk h1 ok st H Ca cl fp) e4
        · cases q
      · cases q
    · cases q
  · cases q
theorem trLc_ok (hf : OkE G k f) (hft : OkT G k ft) (h : CtxOk X C G k s) {elt : Expr} {gens : List Comprehension} {scope : Scope} {pos : Pos} {m : Dn} (q : trLc f ft s elt gens scope = some m) : PE X (.ListComp elt gens scope pos) (rdN C m) := by
  obtain ⟨tg, iter, ifs, w, t, mc, me, is, rfl, hc, p1, p2, p3, p4, p5, p6, p7, p8, rfl⟩ := trLc_parts hf hft h q
  exact sim_lc hc h.nd p1 p2 p3 p4 p5 p6 p7 p8
end
/-! ### calls -/
section
variable (G : Nat → List PV → Store → Res PV) (f ft : Sx → Expr → Option Dn) (s : Sx)
def trIs (a : Expr) (T : Str) : Option Dn :=
  if isGl s "isinstance" && s.free.contains "isinstance" && isGl s T && okName T then
    (if decide (T = ("bool" : Str)) && s.free.contains "bool" && noStar a then (trB f s a).map (dOp1 (gIs "bool"))
    else if decide (T = ("int" : Str)) && s.free.contains "int" && noStar a then (trB f s a).map (dOp1 (gIs "int"))
    else if decide (T = ("tuple" : Str)) && s.free.contains "tuple" && noStar a then (trB f s a).map (dOp1 (gIs "tuple"))
    else match s.exn, a, s.errs.lookup T with
      | some (x, i, er), .Name n _, some c => if decide (n = x) && decide (slot s n = some i) then some (dIsE i (er.is c)) else none
      | _, _, _ => none)
  else none
def trW (fn : Str) : Option Dw → Option Dn
  | some w => if fn = "list" then some (dLW w) else if fn = "tuple" then some (dTW w) else none
  | none => none
def trCall (fn : Str) (args : List Expr) : Option Dn := if isGl s fn && okName fn && !decide (fn = ("__name__" : Str)) then
    match s.fns.lookup fn with
    | some (i, _) => if s.calm && !args.isEmpty then (trAs f s args).map (dCall (G i)) else none
    | none => match args with
      | [a] => if s.free.contains fn && s.calm && noStar a then (match trW fn (trRg f s a) with
        | some m => some m
        | none => match b1 fn, trB f s a with
          | some g, some m => some (dOp1 g m)
          | _, _ => none) else none
      | [a, b] => if decide (fn = ("gcd" : Str)) && !s.free.contains fn && noStar a && noStar b then (match f s a, f s b with
          | some m, some m' => some (dGcd m m')
          | _, _ => none)
        else if decide (fn = ("isinstance" : Str)) then (match b with
          | .Name T _ => trIs f s a T
          | _ => none)
        else none
      | _ => none
  else none
end
section
variable {G : Nat → List PV → Store → Res PV} {k : Nat} {f ft : Sx → Expr → Option Dn} {s : Sx} {X : Cx} {C : CC}
theorem okName_d {x : Str} (h : okName x = true) : (x == ("__debug__" : Str)) = false := by
  unfold okName at h
  rw [Bool.and_eq_true] at h
  simpa using h.1
theorem trIs_ok (hf : OkE G k f) (h : CtxOk X C G k s) {a : Expr} {T : Str} {m : Dn} {p p2 p3 : Pos} (q : trIs f s a T = some m) : PE X (.Call (.Name "isinstance" p) [a, .Name T p2] [] p3) (rd C m) := by
  unfold trIs at q
  split at q
  · rename_i hc
    simp only [Bool.and_eq_true] at hc
    obtain ⟨⟨⟨h1, h2⟩, h3⟩, h4⟩ := hc
    have g1 := h.gl h1
    have f1 : X.mg "isinstance" = none := h.free _ (by simpa using h2)
    have one : ∀ (t : String) (x : Str), t ∈ ["bool", "int", "tuple"] → bootBuiltins x = some (.type t) → T = x → s.free.contains x = true → x ≠ "__name__" → noStar a = true → (trB f s a).map (dOp1 (gIs t)) = some m →
        PE X (.Call (.Name "isinstance" p) [a, .Name T p2] [] p3) (rd C m) := by
      intro t x ht hb e1 e2 e3 e4 e5
      subst e1
      cases e6 : trB f s a with
      | none => rw [e6] at e5; cases e5
      | some ma =>
        rw [e6] at e5; cases e5
        exact sim_is h.hK ht hb (h.gl h3) (h.free _ (by simpa using e2)) e3 (okName_d h4) g1 f1 (trB_ok hf h e6) e4
    split at q
    · rename_i hc
      simp only [Bool.and_eq_true, decide_eq_true_eq] at hc
      exact one "bool" "bool" (by simp) (by decide +kernel) hc.1.1 hc.1.2 (by decide) hc.2 q
    split at q
    · rename_i hc
      simp only [Bool.and_eq_true, decide_eq_true_eq] at hc
      exact one "int" "int" (by simp) (by decide +kernel) hc.1.1 hc.1.2 (by decide) hc.2 q
    split at q
    · rename_i hc
      simp only [Bool.and_eq_true, decide_eq_true_eq] at hc
      exact one "tuple" "tuple" (by simp) (by decide +kernel) hc.1.1 hc.1.2 (by decide) hc.2 q
    split at q
    · rename_i x i er n np c he hlk _ _ _
      split at q
      · rename_i hc
        simp only [Bool.and_eq_true, decide_eq_true_eq] at hc
        obtain ⟨rfl, hsl⟩ := hc
        cases q
        obtain ⟨⟨y, hy⟩, X₀, oe, pn, hX, hz, hfl⟩ := h.exn _ _ _ he
        have hn := h.name hsl
        have e1 := h.errs _ _ hlk
        have e2 := h.errs _ _ hy
        have pr := (h.pair y er T c hy hlk).2
        have g2 := h.gl h3
        rw [hX] at hn g1 g2 e1 e2 f1 pr ⊢
        exact sim_isE e2.2.2.2.2.2 hz hfl rfl hn g2 e1.1 pr g1 f1 (okName_d h4)
      · cases q
    · cases q
  · cases q
theorem trCall_ok (hf : OkE G k f) (h : CtxOk X C G k s) {fn : Str} {args : List Expr} {m : Dn} {p p3 : Pos} (q : trCall G f s fn args = some m) : PE X (.Call (.Name fn p) args [] p3) (rd C m) := by
  unfold trCall at q
  split at q
  · rename_i hc
    simp only [Bool.and_eq_true] at hc
    obtain ⟨⟨h1, h2⟩, h3⟩ := hc
    have hn : fn ≠ "__name__" := by simpa using h3
    split at q
    · rename_i i n hl
      split at q
      · rename_i hc
        simp only [Bool.and_eq_true] at hc
        cases e1 : trAs f s args with
        | none => rw [e1] at q; cases q
        | some ms =>
          rw [e1] at q; cases q
          cases args with
          | nil => exact absurd hc.2 (by simp)
          | cons e es =>
            obtain ⟨fa, fd, ps, m1, m2, m3, m4, m5⟩ := h.fns _ _ _ hl
            have st := trAs_stars e1
            rw [List.all_cons, Bool.and_eq_true] at st
            exact sim_call m5 (h.hK ▸ m3) (h.room hc.1) (h.gl h1) m1 m2 m4 (h.tk hc.1) (trAs_ok hf h e1) (okName_d h2) (star_cons st.1) (all_plain st.2)
      · cases q
    · split at q
      · rename_i a
        split at q
        · rename_i hc
          simp only [Bool.and_eq_true] at hc
          split at q
          · rename_i m1 e1
            cases q
            unfold trW at e1
            split at e1
            · rename_i w e2
              obtain ⟨te, t1, t2, t3, t4⟩ := trRg_ok hf h e2
              split at e1
              · rename_i e3; subst e3; cases e1
                exact sim_lRg t4 (h.gl h1) (h.free _ (by simpa using hc.1.1)) t1 t2 t3
              split at e1
              · rename_i e3; subst e3; cases e1
                exact sim_tRg t4 (h.gl h1) (h.free _ (by simpa using hc.1.1)) t1 t2 t3
              · cases e1
            · cases e1
          · split at q
            · rename_i g m1 e1 e2
              cases q
              exact sim_b1 (b1_ok h.hK h.units (h.calm hc.1.2) e1) (h.gl h1) (h.free _ (by simpa using hc.1.1)) (trB_ok hf h e2) hc.2 hn (okName_d h2)
            · cases q
        · cases q
      · rename_i a b
        split at q
        · rename_i hc
          simp only [Bool.and_eq_true, decide_eq_true_eq] at hc
          obtain ⟨⟨⟨rfl, hfr⟩, ha⟩, hb⟩ := hc
          split at q
          · rename_i m1 m2 e1 e2
            cases q
            have hg : X.mg "gcd" = some (.builtin "math.gcd") := by
              rcases h.gcd with z | z
              · rw [show s.free.contains ("gcd" : Str) = true by simpa using z] at hfr; cases hfr
              · exact z
            exact sim_gcd (h.gl h1) hg (hf s X C a m1 h e1) (hf s X C b m2 h e2) ha hb (okName_d h2)
          · cases q
        · split at q
          · rename_i hc
            have e1 : fn = "isinstance" := of_decide_eq_true hc
            subst e1
            split at q
            · exact trIs_ok hf h q
            · cases q
          · cases q
      · cases q
  · cases q
end
/-! ### all expressions -/
section
variable (G : Nat → List PV → Store → Res PV) (f ft : Sx → Expr → Option Dn) (s : Sx)
/-- a new list -/
def mN : Expr → Option Dn
  | .List es _ => (trAs f s es).map dLst
  | .BinOp a .Add b _ => match trB f s a, trB f s b with
    | some x, some y => some (dOp2 gAddL x y)
    | _, _ => none
  | .BinOp a .Mult b _ => match trB f s a, trB f s b with
    | some x, some y => some (dOp2 gRepL x y)
    | _, _ => none
  | .Subscript a (.Slice lo hi none _) _ => match trB f s a, trPart f s lo, trPart f s hi with
    | some x, some l, some h => some (dSl gSlL x l h)
    | _, _, _ => none
  | .Call (.Name fn _) [a] [] _ => if decide (fn = ("list" : Str)) && isGl s fn && s.free.contains fn && noStar a then (match trRg f s a with
    | some w => some (dLW w)
    | none => (trB f s a).map (dOp1 gList)) else none
  | .ListComp elt gens scope _ => trLc f ft s elt gens scope
  | _ => none
def cmpG : CmpOp → Option G2
  | .Eq => some gEq
  | .NotEq => some gNe
  | .Lt => some gLt
  | .LtE => some gLe
  | .Gt => some gGt
  | .GtE => some gGe
  | .Is => some gIsN
  | .IsNot => some gNotN
  | .In => some gIn
  | .NotIn => some gNotIn
def icG : CmpOp → Option G2
  | .Lt => some gLtI
  | .LtE => some gLeI
  | _ => none
def binG : Operator → Option G2
  | .Add => some gAdd
  | .Sub => some gSub
  | .Mult => some gMul
  | .FloorDiv => some gDiv
  | .Mod => some gMod
  | .Pow => some gPow
  | _ => none
/-- marks behind in -/
def mark (op : CmpOp) (b : Expr) : Bool := behindInMarks op b
def trCmp : Expr → Option Dn
  | .Compare a [op] [b] _ => if mark op b = false then (match cmpG op, trB f s a, trB f s b with
    | some g, some x, some y => some (dOp2 g x y)
    | _, _, _ => none) else none
  | .Compare a [op, op'] [b, c] _ => if lastMarks [op, op'] [b, c] = false then (match icG op, icG op', f s a, f s b, f s c with
    | some g, some g', some x, some y, some z => some (dChain g g' x y z)
    | _, _, _, _, _ => none) else none
  | _ => none
def mE (e : Expr) : Option Dn := if s.box.contains e.pos then (mN f ft s e).map dBox else match e with
  | .Constant (.int i) _ _ => some (dK (.int i))
  | .Constant (.bool b) _ _ => some (dK (.bl b))
  | .Constant .none _ _ => some (dK .non)
  | .Constant (.str x) _ _ => some (dK (.str x))
  | .Name x _ => match slot s x with
    | some i => some (dVar i)
    | none => if isGl s x && okName x then (s.glb.lookup x).map dK else none
  | .BinOp a op b _ => match binG op, trB f s a, trB f s b with
    | some g, some x, some y => some (dOp2 g x y)
    | _, _, _ => none
  | .UnaryOp .USub a _ => (f s a).map dNeg
  | .UnaryOp .Not a _ => (f s a).map dNot
  | .BoolOp .And es _ => trAnd f s es
  | .BoolOp .Or es _ => trOr f s es
  | .IfExp c a b _ => match ft s c, f s a, f s b with
    | some t, some x, some y => some (dIf t x y)
    | _, _, _ => none
  | .Compare a ops bs p => trCmp f s (.Compare a ops bs p)
  | .Tuple es _ _ => (trAs f s es).map dTup
  | .List es _ => (trAs f s es).map dLst
  | .Subscript a (.Slice lo hi none _) _ => match trB f s a, trPart f s lo, trPart f s hi with
    | some x, some l, some h => some (dSl gSl x l h)
    | _, _, _ => none
  | .Subscript a b _ => if notSl b then (match trB f s a, trB f s b with
    | some x, some y => some (dOp2 gIx x y)
    | _, _ => none) else none
  | .Call (.Name fn _) args [] _ => trCall G f s fn args
  | .ListComp elt gens scope _ => trLc f ft s elt gens scope
  | _ => none
def plainT : Expr → Bool
  | .Name _ _ => true
  | .Call _ _ _ _ => true
  | .Constant _ _ _ => true
  | .Subscript _ _ _ => true
  | _ => false
def mT (e : Expr) : Option Dn := match e with
  | .UnaryOp .Not a _ => (ft s a).map dNot
  | .BoolOp .And es _ => trAnd ft s es
  | .BoolOp .Or es _ => trOr ft s es
  | .Compare a ops bs p => trCmp f s (.Compare a ops bs p)
  | e => if plainT e then f s e else none
end
section
variable {G : Nat → List PV → Store → Res PV} {k : Nat} {f ft : Sx → Expr → Option Dn} {s : Sx} {X : Cx} {C : CC}
theorem plain_ix {b : Expr} (h : notSl b = true) : PlainIx b := by
  intro o i
  cases b <;> first | rfl | (exact absurd h (by simp [notSl]))
theorem mN_ok (hf : OkE G k f) (hft : OkT G k ft) (h : CtxOk X C G k s) {e : Expr} {m : Dn} (q : mN f ft s e = some m) : PE X e (rdN C m) := by
  unfold mN at q
  split at q
  · rename_i es p
    cases e1 : trAs f s es with
    | none => rw [e1] at q; cases q
    | some ms => rw [e1] at q; cases q; exact sim_lst (trAs_ok hf h e1)
  · split at q
    · rename_i x y e1 e2
      cases q; exact sim_addN (trB_ok hf h e1) (trB_ok hf h e2)
    · cases q
  · split at q
    · rename_i x y e1 e2
      cases q; exact sim_mulN (trB_ok hf h e1) (trB_ok hf h e2)
    · cases q
  · split at q
    · rename_i x l hh e1 e2 e3
      cases q; exact sim_sliceN h.hK (trB_ok hf h e1) (trPart_ok hf h e2) (trPart_ok hf h e3)
    · cases q
  · split at q
    · rename_i fn p a pos hc
      simp only [Bool.and_eq_true, decide_eq_true_eq] at hc
      obtain ⟨⟨⟨rfl, h1⟩, h2⟩, h3⟩ := hc
      split at q
      · rename_i w e2
        cases q
        obtain ⟨te, t1, t2, t3, t4⟩ := trRg_ok hf h e2
        exact sim_lRgN t4 (h.gl h1) (h.free _ (by simpa using h2)) t1 t2 t3
      cases e1 : trB f s a with
      | none => rw [e1] at q; cases q
      | some ma =>
        rw [e1] at q; cases q
        exact sim_b1N (list_ok h.hK) (h.gl h1) (h.free _ (by simpa using h2)) (trB_ok hf h e1) h3 (by decide) (by decide)
    · cases q
  · exact trLc_ok hf hft h q
  · cases q
theorem cmpG_ok (h : CtxOk X C G k s) {op : CmpOp} {g : G2} (q : cmpG op = some g) : CmpOk X C op g := by
  cases op <;> cases q
  · exact cmp_eq h.hK h.units
  · exact cmp_ne h.hK h.units
  · exact cmp_lt h.hK h.units
  · exact cmp_le h.hK h.units
  · exact cmp_gt h.hK h.units
  · exact cmp_ge h.hK h.units
  · exact cmp_is
  · exact cmp_isnot
  · exact cmp_in h.hK h.units
  · exact cmp_notIn h.hK h.units
theorem icG_ok {op : CmpOp} {g : G2} (q : icG op = some g) : ∃ fn, IntCmp X op g fn := by
  cases op <;> cases q
  · exact ⟨_, ic_lt⟩
  · exact ⟨_, ic_le⟩
theorem trCmp_ok (hf : OkE G k f) (h : CtxOk X C G k s) {e : Expr} {m : Dn} (q : trCmp f s e = some m) : PE X e (rd C m) ∧ PT X e (rdT C m) := by
  unfold trCmp at q
  split at q
  · split at q
    · rename_i hm
      split at q
      · rename_i g x y e0 e1 e2
        cases q
        have hc := cmpG_ok h e0
        exact ⟨sim_compare hc (trB_ok hf h e1) (trB_ok hf h e2) hm, sim_compareT hc (trB_ok hf h e1) (trB_ok hf h e2) hm⟩
      · cases q
    · cases q
  · split at q
    · rename_i hm
      split at q
      · rename_i g g' x y z e0 e0' e1 e2 e3
        cases q
        obtain ⟨fn, hc⟩ := icG_ok (X := X) e0
        obtain ⟨fn', hc'⟩ := icG_ok (X := X) e0'
        have a1 := hf s X C _ _ h e1
        have a2 := hf s X C _ _ h e2
        have a3 := hf s X C _ _ h e3
        exact ⟨sim_chain hc hc' a1 a2 a3 hm, sim_chainT hc hc' a1 a2 a3 hm⟩
      · cases q
    · cases q
  · cases q
theorem binG_ok (h : CtxOk X C G k s) {op : Operator} {g : G2} {a b : Expr} {x y : Dn} {pos : Pos} (q : binG op = some g) (ha : PE X a (rdB C x)) (hb : PE X b (rdB C y)) : PE X (.BinOp a op b pos) (rd C (dOp2 g x y)) := by
  cases op <;> cases q
  · exact sim_add h.hK ha hb
  · exact sim_sub ha hb
  · exact sim_mul h.hK ha hb
  · exact sim_mod ha hb
  · exact sim_pow ha hb
  · exact sim_fdiv ha hb
theorem mE_ok (hf : OkE G k f) (hft : OkT G k ft) (h : CtxOk X C G k s) {e : Expr} {m : Dn} (q : mE G f ft s e = some m) : PE X e (rd C m) := by
  have mp : ∀ {e : Expr} {g : Dn → Dn} {m : Dn}, (f s e).map g = some m → ∃ m', f s e = some m' ∧ m = g m' := fun {e g m} q => by
    cases e1 : f s e with
    | none => rw [e1] at q; cases q
    | some m' => rw [e1] at q; cases q; exact ⟨m', rfl, rfl⟩
  have mpA : ∀ {es : List Expr} {g : Dna → Dn} {m : Dn}, (trAs f s es).map g = some m → ∃ m', trAs f s es = some m' ∧ m = g m' := fun {e g m} q => by
    cases e1 : trAs f s e with
    | none => rw [e1] at q; cases q
    | some m' => rw [e1] at q; cases q; exact ⟨m', rfl, rfl⟩
  unfold mE at q
  split at q
  · cases e1 : mN f ft s e with
    | none => rw [e1] at q; cases q
    | some m' => rw [e1] at q; cases q; exact sim_box (mN_ok hf hft h e1)
  split at q
  · cases q; exact sim_int
  · cases q; exact sim_bl
  · cases q; exact sim_non
  · cases q; exact sim_str
  · rename_i x p hnb
    split at q
    · rename_i i hi
      cases q; exact sim_var (h.name hi)
    · split at q
      · rename_i hc
        rw [Bool.and_eq_true] at hc
        cases e1 : s.glb.lookup x with
        | none => rw [e1] at q; cases q
        | some v =>
          rw [e1] at q; cases q
          obtain ⟨u, w, m1, m2, m3⟩ := h.glb _ _ e1
          exact sim_glob (h.gl hc.1) m1 m2 (by rw [h.hK]; exact m3) (okName_d hc.2)
      · cases q
  · split at q
    · rename_i g x y e0 e1 e2
      cases q; exact binG_ok h e0 (trB_ok hf h e1) (trB_ok hf h e2)
    · cases q
  · obtain ⟨m', e1, rfl⟩ := mp q
    exact sim_neg (hf s X C _ _ h e1)
  · obtain ⟨m', e1, rfl⟩ := mp q
    exact simE_not (hf s X C _ _ h e1)
  · exact trAnd_ok hf h q
  · exact trOr_ok hf h q
  · split at q
    · rename_i t x y e0 e1 e2
      cases q; exact sim_ifExp (hft s X C _ _ h e0) (hf s X C _ _ h e1) (hf s X C _ _ h e2)
    · cases q
  · exact (trCmp_ok hf h q).1
  · obtain ⟨m', e1, rfl⟩ := mpA q
    exact sim_tup (trAs_ok hf h e1)
  · obtain ⟨m', e1, rfl⟩ := mpA q
    exact sim_N (sim_lst (trAs_ok hf h e1))
  · split at q
    · rename_i x l hh e1 e2 e3
      cases q; exact sim_slice h.hK (trB_ok hf h e1) (trPart_ok hf h e2) (trPart_ok hf h e3)
    · cases q
  · split at q
    · rename_i hn
      split at q
      · rename_i x y e1 e2
        cases q; exact sim_item h.hK (trB_ok hf h e1) (trB_ok hf h e2) (plain_ix hn)
      · cases q
    · cases q
  · exact trCall_ok hf h q
  · exact sim_N (trLc_ok hf hft h q)
  · cases q
theorem plainT_ok {e : Expr} {env : PySem.Env} (h : plainT e = true) : ∀ whole, isTrue e env whole = (do let v ← whole; standAt e.pos; holding [v] (truthy v)) := by
  intro w
  cases e <;> first | rfl | (exact absurd h (by simp [plainT]))
theorem mT_ok (hf : OkE G k f) (hft : OkT G k ft) (h : CtxOk X C G k s) {e : Expr} {m : Dn} (q : mT f ft s e = some m) : PT X e (rdT C m) := by
  unfold mT at q
  split at q
  · rename_i a p
    cases e1 : ft s a with
    | none => rw [e1] at q; cases q
    | some m' => rw [e1] at q; cases q; exact simT_not (hft s X C _ _ h e1)
  · exact (trAndT_ok hft h q).pt
  · exact (trOrT_ok hft h q).pt
  · exact (trCmp_ok hf h q).2
  · split at q
    · rename_i hp
      exact sim_val (hf s X C _ _ h q) (plainT_ok hp)
    · cases q
end
/-- to the depth n -/
def tr (G : Nat → List PV → Store → Res PV) : Nat → (Sx → Expr → Option Dn) × (Sx → Expr → Option Dn)
  | 0 => (fun _ _ => none, fun _ _ => none)
  | n + 1 => (fun s e => mE G (tr G n).1 (tr G n).2 s e, fun s e => mT (tr G n).1 (tr G n).2 s e)
theorem tr_ok {G : Nat → List PV → Store → Res PV} {k : Nat} : ∀ n, OkE G k (tr G n).1 ∧ OkT G k (tr G n).2
  | 0 => ⟨fun _ _ _ _ _ _ q => (nomatch q), fun _ _ _ _ _ _ q => (nomatch q)⟩
  | n + 1 => ⟨fun s X C e m h q => mE_ok (tr_ok n).1 (tr_ok n).2 h q, fun s X C e m h q => mT_ok (tr_ok n).1 (tr_ok n).2 h q⟩
end Py
/-! From the text to the denotation: statements. -/
namespace Py
open PySem PySem.Spec L2

/-! ### which stores are exchanged -/
def isComp : Expr → Bool
  | .ListComp _ _ _ _ => true
  | .SetComp _ _ _ _ => true
  | .DictComp _ _ _ _ _ => true
  | _ => false
theorem swaps_no {e : Expr} {t : Option Expr} {l : Nat} {env : PySem.Env} (h : isComp e = false) : swapsWith e t l env = pure false := by
  cases e <;> first | rfl | (exact absurd h (by simp [isComp]))
theorem swapsS_no {e t : Expr} {l : Nat} {env : PySem.Env} (h : isComp e = false) : swapsWithSole [t] e l env = pure false := swaps_no (t := some t) h
def isTup : Expr → Bool
  | .Tuple _ _ _ => true
  | _ => false
theorem swapped_noT {es : List Expr} {k : Nat} {p : Pos} {e : Expr} {env : PySem.Env} (h : isTup e = false) : swappedStores [.Tuple es k p] e env = pure none := by
  cases e <;> first | rfl | (exact absurd h (by simp [isTup]))
theorem swapped_noN {x : Str} {p : Pos} {e : Expr} {env : PySem.Env} : swappedStores [.Name x p] e env = pure none := rfl
theorem swapped_noS {a b : Expr} {p : Pos} {e : Expr} {env : PySem.Env} : swappedStores [.Subscript a b p] e env = pure none := rfl
def lcSwaps (s : Sx) (x : Str) (px pos : Pos) (scope : Scope) : Bool := kindIn s x == some .local && px.line == pos.line && !(scope.names.any fun y => y.1 == x && (y.2 == .local || y.2 == .cell))
theorem lc_swaps {elt : Expr} {gens : List Comprehension} {scope : Scope} {pos px : Pos} {x : Str} {l : Nat} {env : PySem.Env} {s : Sx} (hk : env.scope.kind = .function) (hs : env.scope = s.sc) :
    swapsWith (.ListComp elt gens scope pos) (some (.Name x px)) l env = pure (lcSwaps s x px pos scope) := by
  have e1 : swapsWith (.ListComp elt gens scope pos) (some (.Name x px)) l env = pure (env.blockKind == .function && env.kindOf x == some .local && px.line == pos.line && !(scope.names.any fun (n, k) => n == x && (k == .local || k == .cell))) := rfl
  rw [e1]
  have e2 : env.blockKind = .function := by unfold PySem.Env.blockKind; rw [hk]; rfl
  have e3 : env.kindOf x = kindIn s x := by unfold PySem.Env.kindOf kindIn; rw [hs]
  rw [e2, e3]; rfl
def isStar : Expr → Bool
  | .Starred .. => true
  | _ => false
theorem isStar_no {e : Expr} (h : noStar e = true) : isStar e = false := by cases e <;> first | rfl | (exact absurd h (by simp [noStar]))
/-- a, b = x, y: its stores are exchanged -/
def parOk (x y : Str) (px py : Pos) (a b : Expr) : Bool := px.line == py.line && !(x == y) && noStar a && noStar b && !(foldedForSure 8 a && foldedForSure 8 b) && !(constantsAlone 8 a && constantsAlone 8 b)
theorem par_swapped {x y : Str} {px py pt pt2 : Pos} {a b : Expr} {kt k2 : Nat} {env : PySem.Env} (hk : env.scope.kind = .function) (hx : env.scope.names.lookup x = some .local) (hy : env.scope.names.lookup y = some .local) (h : parOk x y px py a b = true) :
    swappedStores [.Tuple [.Name x px, .Name y py] kt pt] (.Tuple [a, b] k2 pt2) env = pure (some [x, y]) := by
  unfold parOk at h
  simp only [Bool.and_eq_true, Bool.not_eq_true'] at h
  obtain ⟨⟨⟨⟨⟨h1, h2⟩, h3⟩, h4⟩, h5⟩, h6⟩ := h
  have e2 : (env.blockKind != .function) = false := by unfold PySem.Env.blockKind; rw [hk]; rfl
  have n1 : (env.kindOf x == some .local && px.line == px.line) = true := by unfold PySem.Env.kindOf; rw [hx]; simp
  have n2 : (env.kindOf y == some .local && py.line == px.line) = true := by
    unfold PySem.Env.kindOf; rw [hy]
    have : px.line = py.line := by simpa using h1
    simp [this]
  have hne : (x == y) = false := h2
  have hne' : (y == x) = false := by
    cases e : (y == x) with
    | false => rfl
    | true => rw [beq_iff_eq] at e; rw [e] at hne; simp at hne
  have eD : [x, y].eraseDups = [x, y] := by
    simp [List.eraseDups_cons, hne, hne']
  unfold swappedStores
  simp only [List.head?_cons, Option.map_some, Option.getD_some, Expr.pos]
  rw [e2]
  simp only [List.any_cons, List.any_nil]
  simp only [List.all_cons, List.all_nil, Bool.and_true, h5, h6, List.filterMap_cons, List.filterMap_nil, n1, n2, if_true, eD]
  rw [if_neg (by simp), if_neg (by
    show ¬ (isStar a || (isStar b || false)) = true
    rw [isStar_no h3, isStar_no h4]; simp)]
  rfl
/-! ### what is handed on -/
def escE (s : Sx) : Nat → Expr → List Str
  | 0, _ => []
  | n + 1, e =>
    let b : Expr → List Str := fun e => match e with
      | .Name _ _ => []
      | e => escE s n e
    match e with
    | .Name x _ => [x]
    | .BinOp l _ r _ => b l ++ b r
    | .UnaryOp _ a _ => escE s n a
    | .BoolOp _ es _ => es.flatMap (escE s n)
    | .IfExp c l r _ => escE s n c ++ escE s n l ++ escE s n r
    | .Compare l [_] [r] _ => b l ++ b r
    | .Compare l _ rs _ => escE s n l ++ rs.flatMap (escE s n)
    | .Tuple es _ _ => es.flatMap (escE s n)
    | .List es _ => es.flatMap (escE s n)
    | .Subscript l (.Slice lo hi _ _) _ => b l ++ (match lo with | some x => escE s n x | none => []) ++ (match hi with | some x => escE s n x | none => [])
    | .Subscript l r _ => b l ++ b r
    | .Call (.Name f _) args _ _ => if (s.fns.lookup f).isSome then args.flatMap (escE s n) else args.flatMap b
    | .ListComp elt gens _ _ => escE s n elt ++ gens.flatMap fun g => escE s n g.iter ++ g.ifs.flatMap (escE s n)
    | _ => []
def stEsc : Stmt → List Expr
  | .Assign _ e _ => [e]
  | .Expr (.Call (.Attribute _ _ _) args _ _) _ => [.Tuple args 0 default]
  | .Expr e _ => [e]
  | .Return (some e) _ => [e]
  | .If c _ _ _ => [c]
  | .While c _ _ _ => [c]
  | .For _ e _ _ _ => [e]
  | _ => []
def frzs (s : Sx) (st : Stmt) : List Nat := (((stEsc st).flatMap (escE s 12)).eraseDups.filter fun x => s.own.contains x).filterMap fun x => slot s x
def wrapF (is : List Nat) (m : Dns) : Dns := is.foldr (fun i m => dSeq (dFz i) m) m
theorem sim_wrap {X : Cx} {C : CC} {st : Stmt} {m : Dns} (h : PS X st (rdS C m)) : ∀ is : List Nat, PS X st (rdS C (wrapF is m))
  | [] => h
  | _ :: is => sim_fz (sim_wrap h is)
/-! ### the context of a statement -/
structure CtxS (X : Cx) (C : CC) (G : Nat → List PV → Store → Res PV) (k : Nat) (s : Sx) : Prop extends CtxOk X C G k s where
  stack : X.stack = X.env :: X.outer
  frame : X.env.frame = some X.env.locals
  passes : PassesOwn (model X.prog X.w) X.A X.env X.xe
  tkW : Takes X C.W
def OkS (G : Nat → List PV → Store → Res PV) (k : Nat) (fs : Sx → Stmt → Option Dns) : Prop := ∀ s X C st m, CtxS X C G k s → fs s st = some m → PS X st (rdS C m)
def trSs (fs : Sx → Stmt → Option Dns) (s : Sx) : List Stmt → Option Dns
  | [] => some dSkip
  | st :: r => match fs s st, trSs fs s r with
    | some a, some b => some (dSeq a b)
    | _, _ => none
theorem trSs_ok {G : Nat → List PV → Store → Res PV} {k : Nat} {fs : Sx → Stmt → Option Dns} (hf : OkS G k fs) {s : Sx} {X : Cx} {C : CC} (h : CtxS X C G k s) : ∀ {l : List Stmt} {m : Dns}, trSs fs s l = some m → PSs X l (rdS C m)
  | [], m, q => by cases q; exact simS_nil
  | st :: r, m, q => by
    unfold trSs at q
    split at q
    · rename_i a b e1 e2
      cases q
      exact simS_cons (hf s X C st a h e1) (trSs_ok hf h e2)
    · cases q
theorem simS_bad {X : Cx} {C : CC} {l : List Stmt} : PSs X l (rdS C fun _ _ => .bad) := ⟨fun pins s σ H D I q => by
  obtain ⟨F, β, S, ρ, hr, er, s0, o⟩ := q
  exact o.elim⟩
theorem sim_doc {X : Cx} {C : CC} {x : Str} {j : Nat} {p p' : Pos} : PS X (.Expr (.Constant (.str x) j p) p') (rdS C dSkip) := ps_doc.imp fun D σ H q => by
  obtain ⟨F, β, S, ρ, hr, er, s0, o⟩ := q
  exact o F β H σ ⟨FLe.refl F, List.prefix_refl β, hr, er, s0⟩
/-! ### except -/
def sxT (s : Sx) : Sx := { s with exn := none }
def sxA (s : Sx) (n : Str) (i : Nat) (er : Err) : Sx := { s with calm := false, exn := some (n, i, er) }
def sxO (s : Sx) : Sx := { s with calm := false, exn := none }
def knE (s : Sx) (er : Err) : Bool := s.errs.any fun p => decide (p.2 = er) && decide (s.errs.lookup p.1 = some er)
theorem knE_ok {s : Sx} {er : Err} (h : knE s er = true) : ∃ y, s.errs.lookup y = some er := by
  obtain ⟨p, _, hp⟩ := List.any_eq_true.mp h
  rw [Bool.and_eq_true] at hp
  exact ⟨p.1, of_decide_eq_true hp.2⟩
section
variable {X : Cx} {C : CC} {G : Nat → List PV → Store → Res PV} {k : Nat} {s : Sx}
theorem CtxS.toTr (h : CtxS X C G k s) (W : WX) (pn : List (Addr × Obj)) (xe : Value → Shared → Prop) (tk : Takes (X.tr pn xe) W) (hp : PassesOwn (model X.prog X.w) X.A X.env xe) : CtxS (X.tr pn xe) { C with W := W } G k (sxT s) where
  hK := h.hK
  hN := h.hN
  nd := h.nd
  hs := h.hs
  fn := h.fn
  kind := h.kind
  units := h.units
  calm := h.calm
  room := h.room
  tk := fun _ => tk
  fns := h.fns
  glb := h.glb
  errs := h.errs
  pair := h.pair
  free := h.free
  gcd := h.gcd
  exn := fun _ _ _ e => nomatch e
  stack := h.stack
  frame := h.frame
  passes := hp
  tkW := tk
theorem CtxS.toA (h : CtxS X C G k s) {n : Str} {i : Nat} {er : Err} {a : Addr} {oe : Obj} {pn : List (Addr × Obj)} (hk : knE s er = true) (hz : Zc (.ref (C.errC er)) none oe) (hf : ∃ vs, oe.data = .fields vs) : CtxS (X.suite a ((a, oe) :: pn)) (C.sui a) G k (sxA s n i er) where
  hK := h.hK
  hN := h.hN
  nd := h.nd
  hs := h.hs
  fn := h.fn
  kind := h.kind
  units := h.units
  calm := fun e => nomatch e
  room := fun e => nomatch e
  tk := fun e => nomatch e
  fns := h.fns
  glb := h.glb
  errs := h.errs
  pair := h.pair
  free := h.free
  gcd := h.gcd
  exn := fun x j e q => by
    cases q
    exact ⟨knE_ok hk, X, oe, pn, rfl, hz, hf⟩
  stack := h.stack
  frame := h.frame
  passes := PassesOwn.never
  tkW := takes0
theorem CtxS.toO (h : CtxS X C G k s) {a : Addr} {oe : Obj} {pn : List (Addr × Obj)} : CtxS (X.suite a ((a, oe) :: pn)) (C.sui a) G k (sxO s) where
  hK := h.hK
  hN := h.hN
  nd := h.nd
  hs := h.hs
  fn := h.fn
  kind := h.kind
  units := h.units
  calm := fun e => nomatch e
  room := fun e => nomatch e
  tk := fun e => nomatch e
  fns := h.fns
  glb := h.glb
  errs := h.errs
  pair := h.pair
  free := h.free
  gcd := h.gcd
  exn := fun _ _ _ q => nomatch q
  stack := h.stack
  frame := h.frame
  passes := PassesOwn.never
  tkW := takes0
end
/-! ### one statement -/
section
variable (G : Nat → List PV → Store → Res PV) (f ft : Sx → Expr → Option Dn) (fs : Sx → Stmt → Option Dns) (s : Sx)
def hdl (s' : Sx) (l : List Stmt) : Dns := (trSs fs s' l).getD fun _ _ => .bad
/-- x = e -/
def trN (x : Str) (px : Pos) (e : Expr) : Option Dns := match slotS s x with
  | none => none
  | some i => match e with
    | .ListComp elt gens scope pos => if lcSwaps s x px pos scope = true then
        (if s.box.contains pos then none else (trLc f ft s elt gens scope).map fun m => if s.own.contains x then dAsgO i m else dAsg i m)
      else if s.own.contains x then (trLc f ft s elt gens scope).map (dAsgO i) else (f s e).map (dAsg i)
    | .Call (.Attribute (.Name y _) m a) [] [] p => if decide (m = ("pop" : Str)) && (a.endLine == p.line) then (slot s y).map fun j => dPop (tN i) j else none
    | e => if isComp e = true then none else match (if s.own.contains x && !s.box.contains e.pos then mN f ft s e else none) with
      | some m => some (dAsgO i m)
      | none => (f s e).map (dAsg i)
/-- a, b = e -/
def trP (es : List Expr) (e : Expr) : Option Dns := match slotsS s es with
  | none => none
  | some is => match e with
    | .Tuple [a, b] _ _ => (match es with
      | [.Name x px, .Name y py] => if parOk x y px py a b && kindIn s x == some .local && kindIn s y == some .local && s.calm then (match slotS s x, slotS s y, trAs f s [a, b] with
        | some i, some j, some ms => if i == j then none else some (dPar i j ms)
        | _, _, _ => none) else none
      | _ => none)
    | .Call (.Attribute (.Name y _) m a) [] [] p => if decide (m = ("pop" : Str)) && (a.endLine == p.line) && s.calm then (slot s y).map fun j => dPop (tT is) j else none
    | e => if isComp e || isTup e || !s.calm then none else (f s e).map (dAsgT (tT is))
def mS0 (st : Stmt) : Option Dns := match st with
  | .Expr (.Constant (.str _) _ _) _ => some dSkip
  | .Expr (.Call (.Attribute (.Name x _) m a) [e] [] p) _ => if decide (m = ("append" : Str)) && (a.endLine == p.line) && noStar e then (match slot s x, f s e with
    | some i, some me => some (dApp' i me)
    | _, _ => none) else none
  | .Expr e _ => if isComp e then none else (f s e).map dEx
  | .Assign [.Name x px] e _ => trN f ft s x px e
  | .Assign [.Tuple es _ _] e _ => trP f s es e
  | .Assign [.Subscript (.Name x _) ei _] e _ => if notSl ei && !isComp e then (match slot s x, f s e, f s ei with
    | some i, some me, some mi => some (dSetN i mi me)
    | _, _, _ => none) else none
  | .Return (some e) _ => (f s e).map dRet
  | .Return none _ => some dRetN
  | .If c a b _ => match ft s c, trSs fs s a, trSs fs s b with
    | some mc, some ma, some mb => some (dIfS mc ma mb)
    | _, _, _ => none
  | .For tg e body [] _ => if s.calm && notSet e then (match trI f s e, trTg s tg, trSs fs s body with
    | some w, some (_, t), some mb => some (dFor w t mb)
    | _, _, _ => none) else none
  | .Pass _ => some dSkip
  | .Break _ => some dBrk
  | .Continue _ => some dCt
  | .Raise (some (.Call (.Name x _) [.Constant (.str _) _ _] [] _)) none _ => if s.calm && isGl s x && okName x then (s.errs.lookup x).map dRaise else none
  | .Try body [.ExceptHandler (some (.Name x _)) (some n) (b0 :: suite) _] [] [] _ => if isGl s x && okName x && kindIn s n == some .local then (match s.errs.lookup x, slotS s n, trSs fs (sxT s) body with
    | some c, some i, some mb => some (dTry mb (some i) (knE s) (fun er => er.is c) fun er => hdl fs (sxA s n i er) (b0 :: suite))
    | _, _, _ => none) else none
  | .Try body [.ExceptHandler (some (.Name x _)) none (b0 :: suite) _] [] [] _ => if isGl s x && okName x then (match s.errs.lookup x, trSs fs (sxT s) body with
    | some c, some mb => some (dTry mb none (knE s) (fun er => er.is c) fun _ => hdl fs (sxO s) (b0 :: suite))
    | _, _ => none) else none
  | _ => none
noncomputable def mSw (st : Stmt) : Option Dns := match st with
  | .While c body [] _ => match ft s c, trSs fs s body with
    | some mc, some mb => some (dWh mc mb)
    | _, _ => none
  | st => mS0 f ft fs s st
noncomputable def mS (st : Stmt) : Option Dns := (mSw f ft fs s st).map (wrapF (frzs s st))
end
section
variable {G : Nat → List PV → Store → Res PV} {k : Nat} {f ft : Sx → Expr → Option Dn} {fs : Sx → Stmt → Option Dns} {s : Sx} {X : Cx} {C : CC}
theorem hdl_ok (hfs : OkS G k fs) {s' : Sx} (h : CtxS X C G k s') {l : List Stmt} : PSs X l (rdS C (hdl fs s' l)) := by
  unfold hdl
  cases e : trSs fs s' l with
  | none => exact simS_bad
  | some m => exact trSs_ok hfs h e
theorem map_some {α β : Type} {o : Option α} {g : α → β} {b : β} (h : o.map g = some b) : ∃ a, o = some a ∧ b = g a := by
  cases o with
  | none => cases h
  | some a => cases h; exact ⟨a, rfl, rfl⟩
theorem sole {x : Str} {px : Pos} {e : Expr} {l : Nat} {env : PySem.Env} : swapsWithSole [.Name x px] e l env = swapsWith e (some (.Name x px)) l env := rfl
theorem trN_ok (hf : OkE G k f) (hft : OkT G k ft) (h : CtxS X C G k s) {x : Str} {px pos : Pos} {e : Expr} {m : Dns} (q : trN f ft s x px e = some m) : PS X (.Assign [.Name x px] e pos) (rdS C m) := by
  unfold trN at q
  split at q
  · cases q
  rename_i i hi
  have st := h.store hi
  split at q
  · rename_i elt gens scope p
    have sw := lc_swaps (elt := elt) (gens := gens) (scope := scope) (pos := p) (px := px) (x := x) (l := pos.line) h.kind h.hs
    split at q
    · rename_i hsw
      rw [hsw] at sw
      split at q
      · cases q
      obtain ⟨m', e1, rfl⟩ := map_some q
      have hl : X.env.scope.names.lookup x = some .local := by
        unfold lcSwaps kindIn at hsw
        simp only [Bool.and_eq_true] at hsw
        rw [h.hs]
        simpa using hsw.1.1
      obtain ⟨tg, iter, ifs, w, t, mc, me, is, rfl, hc, p1, p2, p3, p4, p5, p6, p7, p8, rfl⟩ := trLc_parts hf hft h.toCtxOk e1
      split
      · exact sim_setLcO hc h.nd st.at_ hl sw p1 p2 p3 p4 p5 p6 p7 p8
      · exact sim_setLc hc h.nd st.at_ hl sw p1 p2 p3 p4 p5 p6 p7 p8
    · rename_i hsw
      have hsw' : lcSwaps s x px p scope = false := by simpa using hsw
      rw [hsw'] at sw
      split at q
      · obtain ⟨m', e1, rfl⟩ := map_some q
        exact sim_asgO st (trLc_ok hf hft h.toCtxOk e1) sw
      · obtain ⟨m', e1, rfl⟩ := map_some q
        exact sim_asg st (hf s X C _ _ h.toCtxOk e1) sw
  · split at q
    · rename_i y py mm a p hc
      simp only [Bool.and_eq_true, decide_eq_true_eq] at hc
      obtain ⟨rfl, hl⟩ := hc
      obtain ⟨j, e1, rfl⟩ := map_some q
      exact sim_pop (h.name e1) (tg_name st) hl rfl rfl rfl
    · cases q
  · rename_i e' _ _
    split at q
    · cases q
    rename_i hcm
    have sw : swapsWith e (some (.Name x px)) pos.line X.env = pure false := swaps_no (by simpa using hcm)
    split at q
    · rename_i m' e1
      cases q
      split at e1
      · exact sim_asgO st (mN_ok hf hft h.toCtxOk e1) sw
      · cases e1
    · obtain ⟨m', e1, rfl⟩ := map_some q
      exact sim_asg st (hf s X C _ _ h.toCtxOk e1) sw
theorem trP_ok (hf : OkE G k f) (h : CtxS X C G k s) {es : List Expr} {kt : Nat} {pt pos : Pos} {e : Expr} {m : Dns} (q : trP f s es e = some m) : PS X (.Assign [.Tuple es kt pt] e pos) (rdS C m) := by
  unfold trP at q
  split at q
  · cases q
  rename_i is his
  split at q
  · split at q
    · split at q
      · rename_i a b k2 p2 x px y py hc
        simp only [Bool.and_eq_true] at hc
        obtain ⟨⟨⟨h1, h2⟩, h3⟩, h4⟩ := hc
        split at q
        · rename_i i j ms e1 e2 e3
          split at q
          · cases q
          rename_i hij
          cases q
          have hx : X.env.scope.names.lookup x = some .local := by rw [h.hs]; exact by simpa [kindIn] using h2
          have hy : X.env.scope.names.lookup y = some .local := by rw [h.hs]; exact by simpa [kindIn] using h3
          exact (ps_par (h.calm h4) h.nd (h.store e1).at_ (h.store e2).at_ (by simpa using hij) hx hy (trAs_ok hf h.toCtxOk e3) (par_swapped h.kind hx hy h1) rfl).imp fun _ _ _ => par_core
        · cases q
      · cases q
    · cases q
  · split at q
    · rename_i y py mm a p hc
      simp only [Bool.and_eq_true, decide_eq_true_eq] at hc
      obtain ⟨⟨rfl, hl⟩, hcl⟩ := hc
      obtain ⟨j, e1, rfl⟩ := map_some q
      exact sim_pop (h.name e1) (tg_tup h.hK (h.calm hcl) (h.names his)) hl rfl rfl rfl
    · cases q
  · split at q
    · cases q
    rename_i hc
    simp only [Bool.or_eq_true, not_or, Bool.not_eq_true', Bool.not_eq_true] at hc
    obtain ⟨⟨h1, h2⟩, h3⟩ := hc
    obtain ⟨m', e1, rfl⟩ := map_some q
    exact sim_asgT (tg_tup h.hK (h.calm (by simpa using h3)) (h.names his)) (hf s X C _ _ h.toCtxOk e1) (swapsS_no h1) (swapped_noT h2) rfl
theorem mS0_ok (hf : OkE G k f) (hft : OkT G k ft) (hfs : OkS G k fs) (h : CtxS X C G k s) {st : Stmt} {m : Dns} (q : mS0 f ft fs s st = some m) : PS X st (rdS C m) := by
  unfold mS0 at q
  split at q
  · cases q; exact sim_doc
  · split at q
    · rename_i x p1 mm a e p sp hc
      simp only [Bool.and_eq_true, decide_eq_true_eq] at hc
      obtain ⟨⟨rfl, hl⟩, hn⟩ := hc
      split at q
      · rename_i i me e1 e2
        cases q
        exact sim_app (h.name e1) (hf s X C _ _ h.toCtxOk e2) hn hl
      · cases q
    · cases q
  · split at q
    · cases q
    rename_i hc
    obtain ⟨m', e1, rfl⟩ := map_some q
    exact sim_expr (hf s X C _ _ h.toCtxOk e1) (swaps_no (by simpa using hc))
  · exact trN_ok hf hft h q
  · exact trP_ok hf h q
  · split at q
    · rename_i hc
      simp only [Bool.and_eq_true, Bool.not_eq_true'] at hc
      split at q
      · rename_i i me mi e1 e2 e3
        cases q
        exact sim_setN hc.1 (h.name e1) (hf s X C _ _ h.toCtxOk e2) (hf s X C _ _ h.toCtxOk e3) (swapsS_no hc.2) rfl
      · cases q
    · cases q
  · obtain ⟨m', e1, rfl⟩ := map_some q
    exact sim_ret (hf s X C _ _ h.toCtxOk e1)
  · cases q; exact sim_retN
  · split at q
    · rename_i mc ma mb e1 e2 e3
      cases q
      exact sim_if (hft s X C _ _ h.toCtxOk e1) (trSs_ok hfs h e2) (trSs_ok hfs h e3)
    · cases q
  · split at q
    · rename_i hc
      simp only [Bool.and_eq_true] at hc
      split at q
      · rename_i w is t mb e1 e2 e3
        cases q
        exact sim_for h.hK h.passes (h.calm hc.1) (trI_ok hf h.toCtxOk e1) (trTg_ok h.toCtxOk (h.calm hc.1) e2) (trSs_ok hfs h e3) (notSet_pure hc.2)
      · cases q
    · cases q
  · cases q; exact sim_pass
  · cases q; exact sim_brk
  · cases q; exact sim_ct
  · split at q
    · rename_i hc
      simp only [Bool.and_eq_true] at hc
      obtain ⟨er, e1, rfl⟩ := map_some q
      obtain ⟨a1, a2, a3, a4, a5, a6⟩ := h.errs _ _ e1
      exact sim_raise (h.calm hc.1.1) h.tkW a2 a1 a3 (raises_own a4 a5) (h.gl hc.1.2) (okName_d hc.2)
    · cases q
  · split at q
    · rename_i hc
      simp only [Bool.and_eq_true] at hc
      obtain ⟨⟨h1, h2⟩, h3⟩ := hc
      split at q
      · rename_i c i mb e1 e2 e3
        cases q
        refine sim_tryAs h.stack h.frame h.nd (h.store e2).at_ ?_ ⟨h.gl h1, okName_d h2, .inl (h.errs _ _ e1).1⟩ h.tkW h.hK (fun er hk => ?_) (fun W pn xe tk hp => ?_) (fun er a oe pn hk hz hfl => ?_)
        · show X.env.scope.names.lookup _ = _
          rw [h.hs]; simpa [kindIn] using h3
        · obtain ⟨y, hy⟩ := knE_ok hk
          exact (h.pair _ _ _ _ hy e1).1
        · exact trSs_ok hfs (h.toTr W pn xe tk hp) e3
        · exact hdl_ok hfs (h.toA hk hz hfl)
      · cases q
    · cases q
  · split at q
    · rename_i hc
      simp only [Bool.and_eq_true] at hc
      split at q
      · rename_i c mb e1 e2
        cases q
        refine sim_tryOnly h.stack h.frame ⟨h.gl hc.1, okName_d hc.2, .inl (h.errs _ _ e1).1⟩ h.tkW h.hK (fun er hk => ?_) (fun W pn xe tk hp => ?_) (fun er a oe pn hk hz hfl => ?_)
        · obtain ⟨y, hy⟩ := knE_ok hk
          exact (h.pair _ _ _ _ hy e1).1
        · exact trSs_ok hfs (h.toTr W pn xe tk hp) e2
        · exact hdl_ok hfs h.toO
      · cases q
    · cases q
  · cases q
theorem mS_ok (hf : OkE G k f) (hft : OkT G k ft) (hfs : OkS G k fs) (h : CtxS X C G k s) {st : Stmt} {m : Dns} (q : mS f ft fs s st = some m) : PS X st (rdS C m) := by
  unfold mS at q
  obtain ⟨m', e1, rfl⟩ := map_some q
  refine sim_wrap ?_ _
  unfold mSw at e1
  split at e1
  · split at e1
    · rename_i mc mb e2 e3
      cases e1
      exact sim_while h.passes (hft s X C _ _ h.toCtxOk e2) (trSs_ok hfs h e3)
    · cases e1
  · exact mS0_ok hf hft hfs h e1
end
/-- statements to the depth n -/
noncomputable def trS (G : Nat → List PV → Store → Res PV) (d : Nat) : Nat → Sx → Stmt → Option Dns
  | 0 => fun _ _ => none
  | n + 1 => fun s st => mS (tr G d).1 (tr G d).2 (trS G d n) s st
theorem trS_ok {G : Nat → List PV → Store → Res PV} {k d : Nat} : ∀ n, OkS G k (trS G d n)
  | 0 => fun _ _ _ _ _ _ q => nomatch q
  | n + 1 => fun s X C st m h q => mS_ok (tr_ok d).1 (tr_ok d).2 (trS_ok n) h q
end Py
/-! The whole text: its defs, each by the others. -/
namespace Py
open PySem PySem.Spec L2

/-! ### the module -/
structure Fn where
  d : He.DefD
  N : List Str
  ps : List Str
  own : List Str := []
  box : List Pos := []
structure Mo where
  fs : List Fn
  fns : List (Str × Nat × Nat)
  glb : List (Str × PV)
  errs : List (Str × Err)
  free : List Str
def sxOf (T : Mo) (f : Fn) : Sx := { N := f.N, sc := f.d.scope, fns := T.fns, glb := T.glb, errs := T.errs, free := T.free, own := f.own, box := f.box, cells := (f.d.scope.names.filter fun y => y.2 == .cell).map (·.1) }
abbrev depthE : Nat := 14
abbrev depthS : Nat := 10
/-- what a def's body does, over what the calls do -/
noncomputable def bodyO (T : Mo) (G : Nat → List PV → Store → Res PV) (f : Fn) : Option Dns := trSs (trS G depthE depthS) (sxOf T f) f.d.body
noncomputable def bodyD (T : Mo) (G : Nat → List PV → Store → Res PV) (f : Fn) : Dns := (bodyO T G f).getD fun _ _ => .bad
theorem bodyD_of {T : Mo} {G : Nat → List PV → Store → Res PV} {f : Fn} {m : Dns} (h : bodyO T G f = some m) : bodyD T G f = m := by unfold bodyD; rw [h]; rfl
noncomputable def callF (T : Mo) : Nat → Nat → List PV → Store → Res PV
  | 0, _ => fun _ _ => .bad
  | k + 1, i => match T.fs[i]? with
    | some f => dDef f.N.length f.ps.length (bodyD T (callF T k) f)
    | none => fun _ _ => .bad
theorem callF_at {T : Mo} {i : Nat} {f : Fn} (h : T.fs[i]? = some f) (k : Nat) : callF T (k + 1) i = dDef f.N.length f.ps.length (bodyD T (callF T k) f) := by
  show (match T.fs[i]? with
    | some f => dDef f.N.length f.ps.length (bodyD T (callF T k) f)
    | none => fun _ _ => .bad) = _
  rw [h]

/-! ### what is looked at -/
def zipAll (p : PV → Value → Bool) : List PV → List Value → Bool
  | [], [] => true
  | v :: vs, u :: us => p v u && zipAll p vs us
  | _, _ => false
def pvB (K : PySem.W.Frag) : Nat → PV → Value → Bool
  | 0, _, _ => false
  | n + 1, v, u => match v with
    | .non => He.relB .non u
    | .bl b => He.relB (.bl b) u
    | .int i => He.relB (.int i) u
    | .str x => He.relB (.str x) u
    | .tup xs => (match u with
      | .ref a => (match K.lookup a with
        | some ⟨.type c, _, .seq its _, _⟩ => decide (c = "tuple") && (decide (its.size ≤ sizeLine) && zipAll (pvB K n) xs its.toList)
        | _ => false)
      | _ => false)
    | _ => false
theorem zipAll_ok {K : PySem.W.Frag} {p : PV → Value → Bool} (hp : ∀ v u, p v u = true → ∃ w, RelV w u ∧ ∀ F β, Rp K F β v w) : ∀ {vs : List PV} {us : List Value}, zipAll p vs us = true → ∃ ws, Vals ws us ∧ ∀ F β, Rps K F β vs ws
  | [], [], _ => ⟨[], .nil, fun _ _ => rfl⟩
  | [], _ :: _, h => by cases h
  | _ :: _, [], h => by cases h
  | v :: vs, u :: us, h => by
    obtain ⟨h1, h2⟩ := He.ba (show (p v u && zipAll p vs us) = true from h)
    obtain ⟨w, r, q⟩ := hp v u h1
    obtain ⟨ws, r', q'⟩ := zipAll_ok hp h2
    exact ⟨w :: ws, .cons r r', fun F β => ⟨w, ws, rfl, q F β, q' F β⟩⟩
theorem pvB_ok {K : PySem.W.Frag} : ∀ n v u, pvB K n v u = true → ∃ w, RelV w u ∧ ∀ F β, Rp K F β v w
  | 0, _, _, h => nomatch h
  | n + 1, v, u, h => by
    cases v with
    | non => exact ⟨.non, He.relB_ok h, fun _ _ => rfl⟩
    | bl b => exact ⟨.bl b, He.relB_ok h, fun _ _ => rfl⟩
    | int b => exact ⟨.int b, He.relB_ok h, fun _ _ => rfl⟩
    | str b => exact ⟨.str b, He.relB_ok h, fun _ _ => rfl⟩
    | tup xs =>
      cases u with
      | ref a =>
        have h : (match K.lookup a with
          | some ⟨.type c, _, .seq its _, _⟩ => decide (c = "tuple") && (decide (its.size ≤ sizeLine) && zipAll (pvB K n) xs its.toList)
          | _ => false) = true := h
        cases q : K.lookup a with
        | none => rw [q] at h; cases h
        | some o =>
          obtain ⟨oc, od, dt, osl⟩ := o
          rw [q] at h
          cases oc with
          | type c =>
            cases dt with
            | seq its m =>
              obtain ⟨h1, h2⟩ := He.ba (show (decide (c = "tuple") && (decide (its.size ≤ sizeLine) && zipAll (pvB K n) xs its.toList)) = true from h)
              obtain ⟨h3, h4⟩ := He.ba h2
              obtain ⟨ws, r, k⟩ := zipAll_ok (pvB_ok n) h4
              refine ⟨.ref a, rfl, fun F β => ⟨a, ws, rfl, ?_, ?_, k F β⟩⟩
              · exact .inr ⟨_, its, m, q, congrArg Value.type (of_decide_eq_true h1), rfl, of_decide_eq_true h3, r⟩
              · have := r.length; have h5 := of_decide_eq_true h3; simp at this; omega
            | _ => cases h
          | _ => cases dt <;> cases h
      | _ => cases h
    | _ => cases h
def glbB (K : PySem.W.Frag) (x : Str) (v : PV) : Bool := match PySem.W.nsIn K mainGlobals x with
  | some (some u) => pvB K 6 v u
  | _ => false
def excCB (K : PySem.W.Frag) (D : Addr) : Bool :=
  He.eqO (PySem.W.findIn K (.ref D) "__getattribute__") (some (some (.builtin "BaseException.__getattribute__"))) && He.eqO (PySem.W.findIn K (.ref D) "__getattr__") (some none) &&
  decide (PySem.W.subIn K (.ref D) (.type "BaseException") = some true) && PySem.W.hasDictIn K D && He.eqO (PySem.W.findIn K (.ref D) "__class__") (some (some (.builtin "object.__class__"))) &&
  He.eqO (PySem.W.specialIn K (.builtin "object.__class__") "__get__") (some (some (.builtin "getset_descriptor.__get__"))) && decide (PySem.W.takesIn K (.builtin "object.__class__") = some true) && decide (PySem.W.mroIn K D (.type "object") = some true)
theorem excCB_ok {K : PySem.W.Frag} {D : Addr} (h : excCB K D = true) : ExcC K D := by
  unfold excCB at h
  simp only [Bool.and_eq_true, decide_eq_true_eq] at h
  obtain ⟨⟨⟨⟨⟨⟨⟨h1, h2⟩, h3⟩, h4⟩, h5⟩, h6⟩, h7⟩, h8⟩ := h
  exact ⟨He.eqO_ok h1, He.eqO_ok h2, h3, h4, He.eqO_ok h5, He.eqO_ok h6, h7, h8⟩
def errA (T : Mo) (K : PySem.W.Frag) (e : Err) : Addr := match T.errs.find? fun p => decide (p.2 = e) with
  | some p => He.ga K p.1
  | none => 0
def errB (T : Mo) (K : PySem.W.Frag) (p : Str × Err) : Bool := decide (errA T K p.2 = He.ga K p.1) && (He.Fa.glo p.1).ok K && (He.Fa.exc p.1).ok K && excCB K (He.ga K p.1) &&
  T.errs.all fun q => decide (PySem.W.exmOne K (.ref (He.ga K p.1)) (.ref (He.ga K q.1)) = some (p.2.is q.2)) && decide (PySem.W.kitOne K (.ref (He.ga K p.1)) (.ref (He.ga K q.1)) = some (p.2.is q.2))
def gcdB (T : Mo) (K : PySem.W.Frag) : Bool := T.free.contains "gcd" || He.eqO (PySem.W.nsIn K mainGlobals "gcd") (some (some (.builtin "math.gcd")))
def fnB (T : Mo) (K : PySem.W.Frag) (p : Str × Nat × Nat) : Bool := (He.Fa.glo p.1).ok K && match T.fs[p.2.1]? with
  | some f => decide (f.d.at_ = (p.1, none)) && decide (f.ps.length = p.2.2)
  | none => false
def modB (T : Mo) (K : PySem.W.Frag) : Bool := T.errs.all (errB T K) && T.glb.all (fun p => glbB K p.1 p.2) && T.free.all (fun x => (He.Fa.free x).ok K) && gcdB T K && T.fns.all (fnB T K)
theorem lk_mem {α : Type} {x : Str} {e : α} : ∀ {l : List (Str × α)}, l.lookup x = some e → (x, e) ∈ l
  | [], h => by cases h
  | (y, u) :: r, h => by
    have h2 : (match x == y with | true => some u | false => r.lookup x) = some e := h
    cases q : (x == y) with
    | true =>
      rw [q] at h2
      have e1 : u = e := Option.some.inj h2
      rw [beq_iff_eq.mp q, e1]
      exact List.mem_cons_self
    | false =>
      rw [q] at h2
      exact List.mem_cons_of_mem _ (lk_mem h2)
/-! ### each def -/
/-- how a def's arguments are bound -/
def BindsF (f : Fn) : Prop := ∀ (K : PySem.W.Frag) (a : Addr) (fd : FuncData), FunD K f.d.name f.d.qual f.d.params f.d.body f.d.scope [] [] a fd → Binds K fd f.ps []
structure FnGood (f : Fn) : Prop where
  sc : FnScope f.N f.ps f.d.scope
  le : f.ps.length ≤ f.N.length
  dfl : f.d.dfl = []
  kwd : f.d.kwd = []
  binds : BindsF f
section
variable {T : Mo} {P : Program} {w : World} {K : PySem.W.Frag} {mg : Str → Option Value} {base h : Heap} {fa : List He.Fa}
theorem fd_of (c : He.SaysD fa (T.fs.map (·.d)) K) {i : Nat} {f : Fn} (hf : T.fs[i]? = some f) (g : FnGood f) : ∃ fd, FunD K f.d.name f.d.qual f.d.params f.d.body f.d.scope [] [] (He.fAd K f.d.at_) fd := by
  obtain ⟨fd, q⟩ := c.defs (d := f.d) (List.mem_map.mpr ⟨f, List.mem_of_getElem? hf, rfl⟩)
  have e1 : f.d.dvs K = [] := by unfold He.DefD.dvs; rw [g.dfl]; rfl
  have e2 : f.d.kws K = [] := by unfold He.DefD.kws; rw [g.kwd]; rfl
  rw [e1, e2] at q
  exact ⟨fd, q⟩
theorem fn_all (X : K.In h) (G : h.Ns mainGlobals mg) (c : He.SaysD fa (T.fs.map (·.d)) K) (b : modB T K = true) (good : ∀ f ∈ T.fs, FnGood f) :
    ∀ (k i : Nat) (f : Fn) (fd : FuncData), T.fs[i]? = some f → FunD K f.d.name f.d.qual f.d.params f.d.body f.d.scope [] [] (He.fAd K f.d.at_) fd → FnOk P w K mg base (L2.CX P w) k (He.fAd K f.d.at_) fd f.ps (spSim K (errA T K) f.ps.length (callF T k i)) := by
  unfold modB at b
  simp only [Bool.and_eq_true] at b
  obtain ⟨⟨⟨⟨b1, b2⟩, b3⟩, b4⟩, b5⟩ := b
  intro k
  induction k with
  | zero =>
    intro i f fd _ _
    exact ⟨fun vs H Q E q => q.1, fun A outer s H args us vs Q E _ _ _ _ q => by
      obtain ⟨_, F, β, S, as, _, _, q⟩ := q
      exact q.elim⟩
  | succ k ih =>
    intro i f fd hf D
    have g := good f (List.mem_of_getElem? hf)
    rw [callF_at hf k]
    refine def_ok D g.sc g.le fun X' C e1 e2 e3 e4 e5 e6 e7 e8 e9 e10 e11 e12 e13 e14 e15 e16 e17 => ?_
    unfold bodyD
    cases eb : bodyO T (callF T k) f with
    | none => exact simS_bad
    | some m =>
      have errs : ∀ x e, T.errs.lookup x = some e → errB T K (x, e) = true ∧ errA T K e = He.ga K x := fun x e he => by
        have q := List.all_eq_true.mp b1 _ (lk_mem he)
        refine ⟨q, ?_⟩
        unfold errB at q
        simp only [Bool.and_eq_true, decide_eq_true_eq] at q
        exact q.1.1.1.1
      refine trSs_ok (trS_ok (G := callF T k) (k := k) (d := depthE) depthS) (s := sxOf T f) ?_ eb
      exact {
        hK := by rw [e16, e3]
        hN := e6
        nd := by rw [e6]; exact g.sc.nd
        hs := e7
        fn := fun x _ => by rw [e8]
        kind := by rw [e7]; exact g.sc.kind
        units := by have := e10.un; omega
        calm := fun _ => e9
        room := fun _ => e10
        tk := fun _ => e11
        fns := fun x j n hl => by
          have q := List.all_eq_true.mp b5 _ (lk_mem hl)
          unfold fnB at q
          obtain ⟨q1, q2⟩ := He.ba q
          cases ej : T.fs[j]? with
          | none => rw [ej] at q2; cases q2
          | some f' =>
            rw [ej] at q2
            obtain ⟨q3, q4⟩ := He.ba q2
            have q3 : f'.d.at_ = (x, none) := of_decide_eq_true q3
            have q4 : f'.ps.length = n := of_decide_eq_true q4
            have g' := good f' (List.mem_of_getElem? ej)
            obtain ⟨fd', D'⟩ := fd_of c ej g'
            refine ⟨He.fAd K f'.d.at_, fd', f'.ps, ?_, ?_, ?_, ?_, ?_⟩
            · rw [e4, He.glo_ok X G q1, q3]; rfl
            · rw [e3]; exact D'.kp
            · rw [e1, e2, e3, e4, e5, e17, ← q4]
              exact ih j f' fd' ej D'
            · rw [e3]; exact g'.binds _ _ _ D'
            · intro args S hn
              cases k with
              | zero => rfl
              | succ k => rw [callF_at ej k]; exact dDef_arity _ _ _ _ _ (by rw [q4]; exact hn)
        glb := fun x v hl => by
          have q := List.all_eq_true.mp b2 _ (lk_mem hl)
          unfold glbB at q
          rw [e3, e4]
          cases en : PySem.W.nsIn K mainGlobals x with
          | none => rw [en] at q; cases q
          | some r =>
            rw [en] at q
            cases r with
            | none => cases q
            | some u =>
              obtain ⟨w', r1, r2⟩ := pvB_ok _ _ _ q
              exact ⟨u, w', PySem.W.mg_of X G en, r1, r2⟩
        errs := fun x e he => by
          obtain ⟨q, qa⟩ := errs x e he
          unfold errB at q
          simp only [Bool.and_eq_true] at q
          obtain ⟨⟨⟨⟨q1, q2⟩, q3⟩, q4⟩, q5⟩ := q
          rw [e3, e4, e17, qa]
          obtain ⟨x1, x2, x3, x4⟩ := He.exc_ok q3
          exact ⟨He.glo_ok X G q2, x1, x2, x3, x4, excCB_ok q4⟩
        pair := fun x e y c' hx hy => by
          obtain ⟨q, qa⟩ := errs x e hx
          obtain ⟨_, qb⟩ := errs y c' hy
          unfold errB at q
          simp only [Bool.and_eq_true] at q
          have z := List.all_eq_true.mp q.2 _ (lk_mem hy)
          simp only [Bool.and_eq_true, decide_eq_true_eq] at z
          rw [e3, e17, qa, qb]
          exact z
        free := fun x hx => by
          rw [e4]
          exact He.free_ok X G (List.all_eq_true.mp b3 x hx)
        gcd := by
          unfold gcdB at b4
          rw [Bool.or_eq_true] at b4
          rcases b4 with z | z
          · exact .inl (show _ ∈ T.free by simpa using z)
          · refine .inr ?_
            rw [e4]
            exact PySem.W.mg_of X G (He.eqO_ok z)
        exn := fun _ _ _ e => nomatch e
        stack := e12
        frame := e13
        passes := e15
        tkW := e11 }
/-- the law, by its plain form -/
theorem law_facts (X : K.In h) (G : h.Ns mainGlobals mg) {f0 : Addr} (hmg : mg ("law" : Str) = some (.ref f0)) (c : He.SaysD fa (T.fs.map (·.d)) K) (b : modB T K = true) (good : ∀ f ∈ T.fs, FnGood f) {i k : Nat} {f : Fn} {x : Str}
    (hf : T.fs[i]? = some f) (hat : f.d.at_ = (("law" : Str), none)) (hps : f.ps = [x]) (hl : (He.Fa.glo "law").ok K = true)
    (hB : ∀ (fd : FuncData) (a : Addr), FunD K f.d.name f.d.qual f.d.params f.d.body f.d.scope [] [] a fd → ∀ (s : Shared) (v : Value), BindsTo s fd ⟨[v], []⟩ [(x, v)])
    {n : Nat} (hn : n ≤ sizeLine) (plain : ∀ ns : List Int, ns.length ≤ n → ∃ S, callF T k i [.scr ns] [] = .ok (.bl true) S) :
    ∃ (fd : FuncData) (sp : Sp), (∀ (s : Shared) (v : Value), BindsTo s fd ⟨[v], []⟩ [(x, v)]) ∧
      (∀ (H : Hp) (a : Addr) (ns : List Int), ns.length ≤ n → Only H → SqL K H a (ns.map V.int) → sp [.ref a] H (fun v _ => v = .bl true) fun _ _ _ => False) ∧
      ∀ base : Heap, K.In base → base.Ns mainGlobals mg → FnOk P w K mg base (L2.CX P w) k f0 fd [x] sp := by
  have g := good f (List.mem_of_getElem? hf)
  obtain ⟨fd, D⟩ := fd_of c hf g
  have e0 : He.fAd K f.d.at_ = f0 := by
    have e := hmg.symm.trans (He.glo_ok X G hl)
    rw [hat]
    show He.ga K "law" = f0
    cases e; rfl
  refine ⟨fd, spSim K (errA T K) 1 (callF T k i), hB fd _ D, fun H a ns hle hO hS => ?_, fun base _ _ => ?_⟩
  · refine ⟨rfl, H, [], [], [.scr ns], ⟨FLe.refl H, rfl, .nil, fun b hb => (nomatch hb), fun n' u b h1 => (nomatch h1)⟩, ⟨.ref a, [], rfl, ⟨a, rfl, hS, by omega⟩, rfl⟩, ?_⟩
    obtain ⟨S, e⟩ := plain ns hle
    rw [e]
    intro F' β' H' _ _ w' rw'
    exact rw'
  · have q := fn_all (P := P) (w := w) (base := base) X G c b good k i f fd hf D
    rw [e0, hps] at q
    exact q
end
/-- the law's walk: what is let out may lean on the world -/
theorem walk_w {l : PySem.W.OpenLaw} {n k : Nat} {q : Program} {loose : List Str} {XP : (Str → Option Value) → Heap → Prop} {YP : World → Heap → Prop} {d : DefRec} {x : Str}
    (hm : l.most = some n) (hz : n ≤ sizeLine) (hd : d.params.defaults = []) (hr : Room k callerA)
    (hF : ∀ (w : World) (mg : Str → Option Value) (f0 : Addr) (h : Heap), YP w h → h.Ns mainGlobals mg → mg d.name = some (.ref f0) → ∃ K : PySem.W.Frag, K.In h ∧ ∃ (fd : FuncData) (sp : Sp), (∀ (s : Shared) (v : Value), BindsTo s fd ⟨[v], []⟩ [(x, v)]) ∧
      (∀ (H : Hp) (a : Addr) (ns : List Int), ns.length ≤ n → Only H → SqL K H a (ns.map V.int) → sp [.ref a] H (fun v _ => v = .bl true) fun _ _ _ => False) ∧
      ∀ base : Heap, K.In base → base.Ns mainGlobals mg → FnOk l.prog w K mg base (L2.CX l.prog w) k f0 fd [x] sp) :
    PySem.W.WalkO q loose XP YP l.row.toRowW d [] (fun f vs => PySem.call f vs) :=
  Att.attach_call hm hd fun w s₀ s₁ mg mb f0 o pm cd doc a vs ns G Y p1 p2 p3 p4 p5 p6 p7 p8 => by
    obtain ⟨K, inK, fd, sp, hB, hS, hK⟩ := hF w mg f0 _ Y G.T.g p4
    refine law_call inK G.T.g G.T.b G.T.builtins G.T.nolimit p8 p5 p6 (Nat.le_trans p7 hz) hr hK hB (fun H hO q => hS H a ns p7 hO q) ?_
    rintro H e s' ⟨_, _, _, _, _, _, _, _, _, _, _, _, z⟩
    exact z
/-- a binding that goes through whatever the rest is -/
def bindsB (f : Fn) : Prop := ∀ (kV doc pm : Value) (an : Option Addr) (cdv ct : Value) (us : List Value), us.length = f.ps.length → bindArgs (PySem.W.fnOf f.d.name f.d.qual f.d.params f.d.body f.d.scope .none kV doc pm an cdv ct) ⟨us, []⟩ = pure (f.ps.zip us)
theorem good_of {f : Fn} (sc : FnScope f.N f.ps f.d.scope) (le : f.ps.length ≤ f.N.length) (dfl : f.d.dfl = []) (kwd : f.d.kwd = []) (b : bindsB f) : FnGood f := ⟨sc, le, dfl, kwd, fun _ _ _ D => D.bindsN b⟩
/-- good, all of them -/
def AllG : List Fn → Prop
  | [] => True
  | f :: r => FnGood f ∧ AllG r
theorem AllG.mem : ∀ {l : List Fn}, AllG l → ∀ f ∈ l, FnGood f
  | [], _, f, h => (nomatch h)
  | g :: r, q, f, h => by
    rcases List.mem_cons.mp h with e | e
    · subst e; exact q.1
    · exact q.2.mem f e
end Py
/-! What the denotations come to, step by step. -/
namespace Py
open L2

/-! ### statements -/
def sqF (r : Flo) (b : Dns) : Flo := match r with
  | .nx ρ S => b ρ S
  | .ret v S => .ret v S
  | .brk ρ S => .brk ρ S
  | .ct ρ S => .ct ρ S
  | .exc e ρ S => .exc e ρ S
  | .bad => .bad
def sbF (r : Res PV) (k : PV → Dns) (ρ : Env) : Flo := match r with
  | .ok v S => k v ρ S
  | .exc e S => .exc e ρ S
  | .bad => .bad
def ifF (v : PV) (a b : Dns) (ρ : Env) (S : Store) : Flo := match v with
  | .bl true => a ρ S
  | .bl false => b ρ S
  | _ => .bad
section
variable {ρ ρ' : Env} {S S' : Store} {v u : PV} {e : Err} {a b c m m' : Dn} {s s' : Dns} {k : PV → Dns} {i j n : Nat} {t : Dt} {w : Dw} {ms : Dna} {g g' : G2} {h1 : G1}
@[simp] theorem sqF_nx : sqF (.nx ρ S) s = s ρ S := rfl
@[simp] theorem sqF_ret : sqF (.ret v S) s = .ret v S := rfl
@[simp] theorem sqF_brk : sqF (.brk ρ S) s = .brk ρ S := rfl
@[simp] theorem sqF_ct : sqF (.ct ρ S) s = .ct ρ S := rfl
@[simp] theorem sqF_exc : sqF (.exc e ρ S) s = .exc e ρ S := rfl
@[simp] theorem sbF_ok : sbF (.ok v S) k ρ = k v ρ S := rfl
@[simp] theorem sbF_exc : sbF (.exc e S) k ρ = .exc e ρ S := rfl
@[simp] theorem ifF_t : ifF (.bl true) s s' ρ S = s ρ S := rfl
@[simp] theorem ifF_f : ifF (.bl false) s s' ρ S = s' ρ S := rfl
theorem sB_ap : sB m k ρ S = sbF (m ρ S) k ρ := rfl
@[simp] theorem dSeq_ap : dSeq s s' ρ S = sqF (s ρ S) s' := by unfold dSeq sqF; cases s ρ S <;> rfl
@[simp] theorem dSkip_ap : dSkip ρ S = .nx ρ S := rfl
@[simp] theorem dAsg_ap : dAsg i m ρ S = sbF (m ρ S) (fun v ρ S => .nx (ρ.set i (.fz v)) S) ρ := rfl
@[simp] theorem dAsgO_ap : dAsgO i m ρ S = sbF (m ρ S) (fun v ρ S => .nx (ρ.set i (.ow v)) S) ρ := rfl
@[simp] theorem dEx_ap : dEx m ρ S = sbF (m ρ S) (fun _ ρ S => .nx ρ S) ρ := rfl
@[simp] theorem dRet_ap : dRet m ρ S = sbF (m ρ S) (fun v _ S => .ret v S) ρ := rfl
@[simp] theorem dRetN_ap : dRetN ρ S = .ret .non S := rfl
@[simp] theorem dIfS_ap : dIfS m s s' ρ S = sbF (m ρ S) (fun v ρ S => ifF v s s' ρ S) ρ := rfl
@[simp] theorem dBrk_ap : dBrk ρ S = .brk ρ S := rfl
@[simp] theorem dCt_ap : dCt ρ S = .ct ρ S := rfl
@[simp] theorem dRaise_ap : dRaise e ρ S = .exc e ρ S := rfl
@[simp] theorem dFz_ap : dFz i ρ S = .nx (fz1 i ρ) S := rfl
def forR (r : Res (List PV)) (t : Dt) (s : Dns) (ρ : Env) : Flo := match r with
  | .ok vs S1 => forD t s vs ρ S1
  | .exc e S1 => .exc e ρ S1
  | .bad => .bad
@[simp] theorem dFor_ap : dFor w t s ρ S = forR (w ρ S) t s ρ := rfl
@[simp] theorem forR_ok {vs : List PV} : forR (.ok vs S) t s ρ = forD t s vs ρ S := rfl
@[simp] theorem forR_exc : forR (.exc e S) t s ρ = .exc e ρ S := rfl
@[simp] theorem forD_nil : forD t s [] ρ S = .nx ρ S := rfl
/-! ### expressions -/
@[simp] theorem dK_ap : dK v ρ S = .ok v S := rfl
def cellV : Option Cell → Store → Res PV
  | some (.fz v), S => .ok v S
  | _, S => .bad
def cellB : Option Cell → Store → Res PV
  | some (.fz v), S => .ok v S
  | some (.ow v), S => .ok v S
  | _, S => .bad
@[simp] theorem cellV_fz : cellV (some (.fz v)) S = .ok v S := rfl
@[simp] theorem cellB_fz : cellB (some (.fz v)) S = .ok v S := rfl
@[simp] theorem cellB_ow : cellB (some (.ow v)) S = .ok v S := rfl
@[simp] theorem dVar_ap : dVar i ρ S = cellV ρ[i]? S := by unfold dVar cellV; split <;> simp_all
@[simp] theorem dBor_ap : dBor i ρ S = cellB ρ[i]? S := by unfold dBor cellB; split <;> simp_all
@[simp] theorem dOp2_ap : dOp2 g a b ρ S = bnd (a ρ S) fun v S1 => bnd (b ρ S1) fun u S2 => lift2 g v u S2 := rfl
@[simp] theorem dOp1_ap : dOp1 h1 a ρ S = bnd (a ρ S) fun v S1 => lift1 h1 v S1 := rfl
def andF (v : PV) (S : Store) (r : Store → Res PV) : Res PV := match v with
  | .bl true => r S
  | .bl false => .ok (.bl false) S
  | _ => .bad
def orF (v : PV) (S : Store) (r : Store → Res PV) : Res PV := match v with
  | .bl true => .ok (.bl true) S
  | .bl false => r S
  | _ => .bad
def notF (v : PV) (S : Store) : Res PV := match v with
  | .bl k => .ok (.bl (!k)) S
  | _ => .bad
def negF (v : PV) (S : Store) : Res PV := match v with
  | .int i => .ok (.int (-i)) S
  | _ => .bad
def iteF2 (v : PV) (S : Store) (r r' : Store → Res PV) : Res PV := match v with
  | .bl true => r S
  | .bl false => r' S
  | _ => .bad
@[simp] theorem dAnd_ap : dAnd a b ρ S = bnd (a ρ S) fun v S1 => andF v S1 fun S => b ρ S := rfl
@[simp] theorem dOr_ap : dOr a b ρ S = bnd (a ρ S) fun v S1 => orF v S1 fun S => b ρ S := rfl
@[simp] theorem dNot_ap : dNot a ρ S = bnd (a ρ S) fun v S1 => notF v S1 := rfl
@[simp] theorem dNeg_ap : dNeg a ρ S = bnd (a ρ S) fun v S1 => negF v S1 := rfl
@[simp] theorem dIf_ap : dIf c a b ρ S = bnd (c ρ S) fun v S1 => iteF2 v S1 (fun S => a ρ S) fun S => b ρ S := rfl
@[simp] theorem andF_t {r : Store → Res PV} : andF (.bl true) S r = r S := rfl
@[simp] theorem andF_f {r : Store → Res PV} : andF (.bl false) S r = .ok (.bl false) S := rfl
@[simp] theorem orF_t {r : Store → Res PV} : orF (.bl true) S r = .ok (.bl true) S := rfl
@[simp] theorem orF_f {r : Store → Res PV} : orF (.bl false) S r = r S := rfl
@[simp] theorem notF_b {k : Bool} : notF (.bl k) S = .ok (.bl (!k)) S := rfl
@[simp] theorem negF_i {i : Int} : negF (.int i) S = .ok (.int (-i)) S := rfl
@[simp] theorem iteF2_t {r r' : Store → Res PV} : iteF2 (.bl true) S r r' = r S := rfl
@[simp] theorem iteF2_f {r r' : Store → Res PV} : iteF2 (.bl false) S r r' = r' S := rfl
@[simp] theorem dNil_ap : dNil ρ S = .ok [] S := rfl
@[simp] theorem dCons_ap : dCons m ms ρ S = bnd (m ρ S) fun v S1 => bnd (ms ρ S1) fun vs S2 => .ok (v :: vs) S2 := rfl
def seqF (c : List PV → PV) (vs : List PV) (S : Store) : Res PV := if vs.length ≤ sz then .ok (c vs) S else .bad
theorem seqF_ok {f : List PV → PV} {vs : List PV} (h : vs.length ≤ sz) : seqF f vs S = .ok (f vs) S := if_pos h
@[simp] theorem seqF0 {f : List PV → PV} : seqF f [] S = .ok (f []) S := rfl
@[simp] theorem seqF1 {f : List PV → PV} {x : PV} : seqF f [x] S = .ok (f [x]) S := seqF_ok (by simp [sz])
@[simp] theorem seqF2 {f : List PV → PV} {x y : PV} : seqF f [x, y] S = .ok (f [x, y]) S := seqF_ok (by simp [sz])
@[simp] theorem seqF3 {f : List PV → PV} {x y z : PV} : seqF f [x, y, z] S = .ok (f [x, y, z]) S := seqF_ok (by simp [sz])
@[simp] theorem seqF4 {f : List PV → PV} {x y z w : PV} : seqF f [x, y, z, w] S = .ok (f [x, y, z, w]) S := seqF_ok (by simp [sz])
@[simp] theorem seqF5 {f : List PV → PV} {x y z w v : PV} : seqF f [x, y, z, w, v] S = .ok (f [x, y, z, w, v]) S := seqF_ok (by simp [sz])
@[simp] theorem dTup_ap : dTup ms ρ S = bnd (ms ρ S) fun vs S1 => seqF .tup vs S1 := rfl
@[simp] theorem dLst_ap : dLst ms ρ S = bnd (ms ρ S) fun vs S1 => seqF .lst vs S1 := rfl
@[simp] theorem dCall_ap {f : List PV → Store → Res PV} : dCall f ms ρ S = bnd (ms ρ S) fun vs S1 => f vs S1 := rfl
/-! ### operators -/
@[simp] theorem l2_add {x y : Int} : lift2 gAdd (.int x) (.int y) S = .ok (.int (x + y)) S := rfl
@[simp] theorem l2_sub {x y : Int} : lift2 gSub (.int x) (.int y) S = .ok (.int (x - y)) S := rfl
theorem l2_mul {x y : Int} (hx : okI x = true) (hy : okI y = true) : lift2 gMul (.int x) (.int y) S = .ok (.int (x * y)) S := by
  show (match (gMulI (.int x) (.int y) S).or ((gRepL (.int x) (.int y) S).or (gRepT (.int x) (.int y) S)) with | some z => Res.ok z S | none => .bad) = _
  have : gMulI (.int x) (.int y) S = some (.int (x * y)) := by
    show (if (okI x && okI y) = true then some (PV.int (x * y)) else none) = _
    rw [hx, hy]; rfl
  rw [this]; rfl
theorem l2_div {x y : Int} (h : 0 < y) (hy : okI y = true) : lift2 gDiv (.int x) (.int y) S = .ok (.int (x / y)) S := by
  show (match (if (decide (0 < y) && okI y) = true then some (PV.int (x / y)) else none) with | some z => Res.ok z S | none => .bad) = _
  rw [hy, decide_eq_true h]; rfl
theorem l2_mod {x y : Int} (h : 0 < y) : lift2 gMod (.int x) (.int y) S = .ok (.int (x % y)) S := by
  show (match (if decide (0 < y) = true then some (PV.int (x % y)) else none) with | some z => Res.ok z S | none => .bad) = _
  rw [decide_eq_true h]; rfl
@[simp] theorem l2_lt {x y : Int} : lift2 gLt (.int x) (.int y) S = .ok (.bl (decide (x < y))) S := rfl
@[simp] theorem l2_le {x y : Int} : lift2 gLe (.int x) (.int y) S = .ok (.bl (decide (x ≤ y))) S := rfl
@[simp] theorem l2_gt {x y : Int} : lift2 gGt (.int x) (.int y) S = .ok (.bl (decide (y < x))) S := rfl
@[simp] theorem l2_ge {x y : Int} : lift2 gGe (.int x) (.int y) S = .ok (.bl (decide (y ≤ x))) S := rfl
@[simp] theorem l2_eq {x y : Int} : lift2 gEq (.int x) (.int y) S = .ok (.bl (decide (x = y))) S := rfl
@[simp] theorem l2_ne {x y : Int} : lift2 gNe (.int x) (.int y) S = .ok (.bl (!decide (x = y))) S := rfl
@[simp] theorem l2_tup20 {x y : PV} : lift2 gIx (.tup [x, y]) (.int 0) S = .ok x S := rfl
@[simp] theorem l2_tup21 {x y : PV} : lift2 gIx (.tup [x, y]) (.int 1) S = .ok y S := rfl
theorem l2_tup {xs : List PV} {i : Int} {z : PV} (h : atI xs i = some z) : lift2 gIx (.tup xs) (.int i) S = .ok z S := by
  show (match atI xs i with | some z => Res.ok z S | none => .bad) = _
  rw [h]
theorem l2_lst {xs : List PV} {i : Int} {z : PV} (h : atI xs i = some z) : lift2 gIx (.lst xs) (.int i) S = .ok z S := by
  show (match atI xs i with | some z => Res.ok z S | none => .bad) = _
  rw [h]
@[simp] theorem l1_abs {x : Int} : lift1 gAbs (.int x) S = .ok (.int (if x < 0 then -x else x)) S := rfl
@[simp] theorem l1_int {x : Int} : lift1 gInt (.int x) S = .ok (.int x) S := rfl
@[simp] theorem l1_lenT {xs : List PV} : lift1 gLen (.tup xs) S = .ok (.int xs.length) S := rfl
@[simp] theorem l1_lenL {xs : List PV} : lift1 gLen (.lst xs) S = .ok (.int xs.length) S := rfl
@[simp] theorem l1_tupL {xs : List PV} : lift1 gTuple (.lst xs) S = .ok (.tup xs) S := rfl
@[simp] theorem l1_tupT {xs : List PV} : lift1 gTuple (.tup xs) S = .ok (.tup xs) S := rfl
@[simp] theorem l1_listS {ns : List Int} : lift1 gList (.scr ns) S = .ok (.lst (ns.map .int)) S := rfl
@[simp] theorem l1_isI {i : Int} : lift1 (gIs "int") (.int i) S = .ok (.bl true) S := rfl
@[simp] theorem l1_isB {i : Int} : lift1 (gIs "bool") (.int i) S = .ok (.bl false) S := rfl
@[simp] theorem l1_isT {xs : List PV} : lift1 (gIs "tuple") (.tup xs) S = .ok (.bl true) S := rfl
def gcdF (v u : PV) (S : Store) : Res PV := match v, u with
  | .int i, .int j => .ok (.int (Nat.gcd i.natAbs j.natAbs : Nat)) S
  | _, _ => .bad
@[simp] theorem dGcd_ap : dGcd a b ρ S = bnd (a ρ S) fun v S1 => bnd (b ρ S1) fun u S2 => gcdF v u S2 := rfl
@[simp] theorem gcdF_i {i j : Int} : gcdF (.int i) (.int j) S = .ok (.int (Nat.gcd i.natAbs j.natAbs : Nat)) S := rfl
/-! ### defs -/
@[simp] theorem flo_ret : flo (.ret v S) = .ok v S := rfl
@[simp] theorem flo_nx : flo (.nx ρ S) = .ok .non S := rfl
@[simp] theorem flo_exc : flo (.exc e ρ S) = .exc e S := rfl
end
theorem def1 {n : Nat} {m : Dns} {x : PV} {S : Store} : dDef n 1 m [x] S = flo (m (.fz x :: List.replicate (n - 1) .un) S) := rfl
theorem def2 {n : Nat} {m : Dns} {x y : PV} {S : Store} : dDef n 2 m [x, y] S = flo (m (.fz x :: .fz y :: List.replicate (n - 2) .un) S) := rfl
theorem def3 {n : Nat} {m : Dns} {x y z : PV} {S : Store} : dDef n 3 m [x, y, z] S = flo (m (.fz x :: .fz y :: .fz z :: List.replicate (n - 3) .un) S) := rfl
theorem def4 {n : Nat} {m : Dns} {x y z w : PV} {S : Store} : dDef n 4 m [x, y, z, w] S = flo (m (.fz x :: .fz y :: .fz z :: .fz w :: List.replicate (n - 4) .un) S) := rfl
/-! ### sizes -/
theorem okI_of {x : Int} {b : Nat} (h : x.natAbs < 2 ^ b) (hb : b ≤ 8000) : okI x = true := by
  unfold okI lim
  exact decide_eq_true (Nat.lt_of_lt_of_le h (Nat.pow_le_pow_right (by decide) hb))
end Py
/-! The draws that the laws share. -/
namespace Py
open L2

section
variable {ρ r : Env} {S R : Store} {v u a b c d : PV} {i : Nat} {m mi me : Dn}
theorem dSetN_ap : dSetN i mi me ρ S = sbF (me ρ S) (fun v ρ S => if hasN i ρ = true then sbF (mi ρ S) (fun k ρ S => fin (chg i (setAt k v) ρ S)) ρ else .bad) ρ := rfl
theorem hasN0 : hasN 0 (.fz v :: r) = true := rfl
theorem chg0 {f : List PV → Option (List PV)} {xs : List PV} : chg 0 f (.fz (.ref 0) :: r) (.lst xs :: R) = (f xs).map fun ys => (.fz (.ref 0) :: r, .lst ys :: R) := rfl
theorem setAt1 : setAt (.int 1) v [a, b, c, d] = some [a, v, c, d] := rfl
theorem setAt2 : setAt (.int 2) v [a, b, c, d] = some [a, b, v, d] := rfl
theorem setAt3 : setAt (.int 3) v [a, b, c, d] = some [a, b, c, v] := rfl
theorem fin_some : fin (some (ρ, S)) = .nx ρ S := rfl
theorem rix0 : lift2 gIx (.ref 0) (.int 0) (.lst [a, b, c, d] :: R) = .ok a (.lst [a, b, c, d] :: R) := rfl
theorem rix1 : lift2 gIx (.ref 0) (.int 1) (.lst [a, b, c, d] :: R) = .ok b (.lst [a, b, c, d] :: R) := rfl
theorem rix2 : lift2 gIx (.ref 0) (.int 2) (.lst [a, b, c, d] :: R) = .ok c (.lst [a, b, c, d] :: R) := rfl
theorem rix3 : lift2 gIx (.ref 0) (.int 3) (.lst [a, b, c, d] :: R) = .ok d (.lst [a, b, c, d] :: R) := rfl
theorem pow1018 : lift2 gPow (.int 10) (.int 18) S = .ok (.int 1000000000000000000) S := rfl
theorem atI_ints {ns : List Int} {i : Nat} (h : i < ns.length) : atI (ns.map PV.int) (i : Int) = some (.int ns[i]) := by
  unfold atI ixN
  rw [if_pos (by omega), List.length_map, if_pos (by omega)]
  simp [h]
end
/-- the state of the draws -/
def dst (ns : List Int) (i : Nat) (m s : Int) : List PV := [.lst (ns.map .int), .int i, .int m, .int s]
def Dr (R S : Store) : Prop := ∃ (ns : List Int) (i : Nat) (m s : Int), S = .lst (dst ns i m s) :: R ∧ i ≤ ns.length ∧ 0 ≤ m ∧ 0 ≤ s ∧ s < 2147483647
def takeD : Dns := (dSeq (dIfS (dAnd (dOp2 gEq (dOp2 gIx (dBor 0) (dK (.int 2))) (dK (.int 0))) (dOp2 gLt (dOp2 gIx (dBor 0) (dK (.int 1))) (dOp1 gLen (dOp2 gIx (dBor 0) (dK (.int 0)))))) (dSeq (dSetN 0 (dK (.int 2)) (dOp1 gAbs (dOp1 gInt (dOp2 gIx (dOp2 gIx (dBor 0) (dK (.int 0))) (dOp2 gIx (dBor 0) (dK (.int 1))))))) (dSeq (dSetN 0 (dK (.int 1)) (dOp2 gAdd (dOp2 gIx (dBor 0) (dK (.int 1))) (dK (.int 1)))) (dSeq (dIfS (dOp2 gLt (dOp2 gIx (dBor 0) (dK (.int 2))) (dOp2 gPow (dK (.int 10)) (dK (.int 18)))) (dSeq (dAsg 3 (dOp1 gInt (dOp2 gIx (dBor 0) (dK (.int 2))))) (dSeq (dSetN 0 (dK (.int 2)) (dK (.int 0))) (dSeq (dRet (dOp2 gMod (dBor 3) (dBor 1))) dSkip))) dSkip) dSkip))) dSkip) (dSeq (dIfS (dOp2 gGt (dOp2 gIx (dBor 0) (dK (.int 2))) (dK (.int 0))) (dSeq (dAsg 2 (dOp2 gMod (dOp1 gInt (dOp2 gIx (dBor 0) (dK (.int 2)))) (dBor 1))) (dSeq (dSetN 0 (dK (.int 2)) (dOp2 gDiv (dOp1 gInt (dOp2 gIx (dBor 0) (dK (.int 2)))) (dBor 1))) (dSeq (dRet (dVar 2)) dSkip))) dSkip) (dSeq (dSetN 0 (dK (.int 3)) (dOp2 gMod (dOp1 gInt (dOp2 gAdd (dOp2 gMul (dOp2 gIx (dBor 0) (dK (.int 3))) (dK (.int 48271))) (dK (.int 11)))) (dK (.int 2147483647)))) (dSeq (dRet (dOp2 gMod (dOp1 gInt (dOp2 gDiv (dOp2 gIx (dBor 0) (dK (.int 3))) (dK (.int 3)))) (dBor 1))) dSkip))))
def TakeOk (f : List PV → Store → Res PV) : Prop := ∀ R S many, Dr R S → 0 < many → okI many = true → ∃ (r : Int) (S' : Store), f [.ref 0, .int many] S = .ok (.int r) S' ∧ 0 ≤ r ∧ r < many ∧ Dr R S'
theorem okI_small {x : Int} (h : x.natAbs < 2 ^ 256) : okI x = true := okI_of h (by decide)
theorem take_low {many s : Int} {ns : List Int} {i : Nat} {m : Int} {R : Store} {c2 c3 : Cell} (hm : 0 < many) (ho : okI many = true) (hi : i ≤ ns.length) (h0 : 0 ≤ m) (hs : 0 ≤ s) (hs' : s < 2147483647) (hc : ¬ (m = 0 ∧ i < ns.length)) :
    ∃ (r : Int) (S' : Store), flo (takeD [.fz (.ref 0), .fz (.int many), c2, c3] (.lst (dst ns i m s) :: R)) = .ok (.int r) S' ∧ 0 ≤ r ∧ r < many ∧ Dr R S' := by
  unfold takeD dst
  simp -implicitDefEqProofs only [sqF_nx, sqF_ret, sqF_brk, sqF_ct, sqF_exc, sbF_ok, sbF_exc, ifF_t, ifF_f, dSeq_ap, dSkip_ap, dAsg_ap, dAsgO_ap, dEx_ap, dRet_ap, dRetN_ap, dIfS_ap, dBrk_ap, dCt_ap, dRaise_ap, dFz_ap, dFor_ap, forR_ok, forR_exc, forD_nil, dK_ap, cellV_fz, cellB_fz, cellB_ow, dVar_ap, dBor_ap, dOp2_ap, dOp1_ap, dAnd_ap, dOr_ap, dNot_ap, dNeg_ap, dIf_ap, andF_t, andF_f, orF_t, orF_f, notF_b, negF_i, iteF2_t, iteF2_f, dNil_ap, dCons_ap, seqF0, seqF1, seqF2, seqF3, seqF4, seqF5, dTup_ap, dLst_ap, dCall_ap, l2_add, l2_sub, l2_lt, l2_le, l2_gt, l2_ge, l2_eq, l2_ne, l2_tup20, l2_tup21, l1_abs, l1_int, l1_lenT, l1_lenL, l1_tupL, l1_tupT, l1_listS, l1_isI, l1_isB, l1_isT, dGcd_ap, gcdF_i, flo_ret, flo_nx, flo_exc, dSetN_ap, hasN0, chg0, setAt1, setAt2, setAt3, fin_some, rix0, rix1, rix2, rix3, pow1018, Nat.reduceSub, List.replicate, List.replicate_zero, bnd_ok, bnd_exc, List.getElem?_cons_zero, List.getElem?_cons_succ, List.set_cons_succ, List.set_cons_zero, Option.map_some, if_true, decide_true, decide_false, Bool.not_true, Bool.not_false, List.length_map]
  by_cases e0 : m = 0
  · have hl : ¬ ((i : Int) < (ns.length : Int)) := by omega
    subst e0
    simp -implicitDefEqProofs only [sqF_nx, sqF_ret, sqF_brk, sqF_ct, sqF_exc, sbF_ok, sbF_exc, ifF_t, ifF_f, dSeq_ap, dSkip_ap, dAsg_ap, dAsgO_ap, dEx_ap, dRet_ap, dRetN_ap, dIfS_ap, dBrk_ap, dCt_ap, dRaise_ap, dFz_ap, dFor_ap, forR_ok, forR_exc, forD_nil, dK_ap, cellV_fz, cellB_fz, cellB_ow, dVar_ap, dBor_ap, dOp2_ap, dOp1_ap, dAnd_ap, dOr_ap, dNot_ap, dNeg_ap, dIf_ap, andF_t, andF_f, orF_t, orF_f, notF_b, negF_i, iteF2_t, iteF2_f, dNil_ap, dCons_ap, seqF0, seqF1, seqF2, seqF3, seqF4, seqF5, dTup_ap, dLst_ap, dCall_ap, l2_add, l2_sub, l2_lt, l2_le, l2_gt, l2_ge, l2_eq, l2_ne, l2_tup20, l2_tup21, l1_abs, l1_int, l1_lenT, l1_lenL, l1_tupL, l1_tupT, l1_listS, l1_isI, l1_isB, l1_isT, dGcd_ap, gcdF_i, flo_ret, flo_nx, flo_exc, dSetN_ap, hasN0, chg0, setAt1, setAt2, setAt3, fin_some, rix0, rix1, rix2, rix3, pow1018, Nat.reduceSub, List.replicate, List.replicate_zero, bnd_ok, bnd_exc, List.getElem?_cons_zero, List.getElem?_cons_succ, List.set_cons_succ, List.set_cons_zero, Option.map_some, if_true, decide_true, decide_false, Bool.not_true, Bool.not_false, List.length_map, hl, Int.lt_irrefl]
    rw [l2_mul (okI_small (by omega)) (okI_small (by decide))]
    simp -implicitDefEqProofs only [sqF_nx, sqF_ret, sqF_brk, sqF_ct, sqF_exc, sbF_ok, sbF_exc, ifF_t, ifF_f, dSeq_ap, dSkip_ap, dAsg_ap, dAsgO_ap, dEx_ap, dRet_ap, dRetN_ap, dIfS_ap, dBrk_ap, dCt_ap, dRaise_ap, dFz_ap, dFor_ap, forR_ok, forR_exc, forD_nil, dK_ap, cellV_fz, cellB_fz, cellB_ow, dVar_ap, dBor_ap, dOp2_ap, dOp1_ap, dAnd_ap, dOr_ap, dNot_ap, dNeg_ap, dIf_ap, andF_t, andF_f, orF_t, orF_f, notF_b, negF_i, iteF2_t, iteF2_f, dNil_ap, dCons_ap, seqF0, seqF1, seqF2, seqF3, seqF4, seqF5, dTup_ap, dLst_ap, dCall_ap, l2_add, l2_sub, l2_lt, l2_le, l2_gt, l2_ge, l2_eq, l2_ne, l2_tup20, l2_tup21, l1_abs, l1_int, l1_lenT, l1_lenL, l1_tupL, l1_tupT, l1_listS, l1_isI, l1_isB, l1_isT, dGcd_ap, gcdF_i, flo_ret, flo_nx, flo_exc, dSetN_ap, hasN0, chg0, setAt1, setAt2, setAt3, fin_some, rix0, rix1, rix2, rix3, pow1018, Nat.reduceSub, List.replicate, List.replicate_zero, bnd_ok, bnd_exc, List.getElem?_cons_zero, List.getElem?_cons_succ, List.set_cons_succ, List.set_cons_zero, Option.map_some, if_true, decide_true, decide_false, Bool.not_true, Bool.not_false]
    rw [l2_mod (by decide)]
    simp -implicitDefEqProofs only [sqF_nx, sqF_ret, sqF_brk, sqF_ct, sqF_exc, sbF_ok, sbF_exc, ifF_t, ifF_f, dSeq_ap, dSkip_ap, dAsg_ap, dAsgO_ap, dEx_ap, dRet_ap, dRetN_ap, dIfS_ap, dBrk_ap, dCt_ap, dRaise_ap, dFz_ap, dFor_ap, forR_ok, forR_exc, forD_nil, dK_ap, cellV_fz, cellB_fz, cellB_ow, dVar_ap, dBor_ap, dOp2_ap, dOp1_ap, dAnd_ap, dOr_ap, dNot_ap, dNeg_ap, dIf_ap, andF_t, andF_f, orF_t, orF_f, notF_b, negF_i, iteF2_t, iteF2_f, dNil_ap, dCons_ap, seqF0, seqF1, seqF2, seqF3, seqF4, seqF5, dTup_ap, dLst_ap, dCall_ap, l2_add, l2_sub, l2_lt, l2_le, l2_gt, l2_ge, l2_eq, l2_ne, l2_tup20, l2_tup21, l1_abs, l1_int, l1_lenT, l1_lenL, l1_tupL, l1_tupT, l1_listS, l1_isI, l1_isB, l1_isT, dGcd_ap, gcdF_i, flo_ret, flo_nx, flo_exc, dSetN_ap, hasN0, chg0, setAt1, setAt2, setAt3, fin_some, rix0, rix1, rix2, rix3, pow1018, Nat.reduceSub, List.replicate, List.replicate_zero, bnd_ok, bnd_exc, List.getElem?_cons_zero, List.getElem?_cons_succ, List.set_cons_succ, List.set_cons_zero, Option.map_some, if_true, decide_true, decide_false, Bool.not_true, Bool.not_false]
    rw [l2_div (by decide) (okI_small (by decide))]
    simp -implicitDefEqProofs only [sqF_nx, sqF_ret, sqF_brk, sqF_ct, sqF_exc, sbF_ok, sbF_exc, ifF_t, ifF_f, dSeq_ap, dSkip_ap, dAsg_ap, dAsgO_ap, dEx_ap, dRet_ap, dRetN_ap, dIfS_ap, dBrk_ap, dCt_ap, dRaise_ap, dFz_ap, dFor_ap, forR_ok, forR_exc, forD_nil, dK_ap, cellV_fz, cellB_fz, cellB_ow, dVar_ap, dBor_ap, dOp2_ap, dOp1_ap, dAnd_ap, dOr_ap, dNot_ap, dNeg_ap, dIf_ap, andF_t, andF_f, orF_t, orF_f, notF_b, negF_i, iteF2_t, iteF2_f, dNil_ap, dCons_ap, seqF0, seqF1, seqF2, seqF3, seqF4, seqF5, dTup_ap, dLst_ap, dCall_ap, l2_add, l2_sub, l2_lt, l2_le, l2_gt, l2_ge, l2_eq, l2_ne, l2_tup20, l2_tup21, l1_abs, l1_int, l1_lenT, l1_lenL, l1_tupL, l1_tupT, l1_listS, l1_isI, l1_isB, l1_isT, dGcd_ap, gcdF_i, flo_ret, flo_nx, flo_exc, dSetN_ap, hasN0, chg0, setAt1, setAt2, setAt3, fin_some, rix0, rix1, rix2, rix3, pow1018, Nat.reduceSub, List.replicate, List.replicate_zero, bnd_ok, bnd_exc, List.getElem?_cons_zero, List.getElem?_cons_succ, List.set_cons_succ, List.set_cons_zero, Option.map_some, if_true, decide_true, decide_false, Bool.not_true, Bool.not_false]
    rw [l2_mod hm]
    simp -implicitDefEqProofs only [sqF_nx, sqF_ret, sqF_brk, sqF_ct, sqF_exc, sbF_ok, sbF_exc, ifF_t, ifF_f, dSeq_ap, dSkip_ap, dAsg_ap, dAsgO_ap, dEx_ap, dRet_ap, dRetN_ap, dIfS_ap, dBrk_ap, dCt_ap, dRaise_ap, dFz_ap, dFor_ap, forR_ok, forR_exc, forD_nil, dK_ap, cellV_fz, cellB_fz, cellB_ow, dVar_ap, dBor_ap, dOp2_ap, dOp1_ap, dAnd_ap, dOr_ap, dNot_ap, dNeg_ap, dIf_ap, andF_t, andF_f, orF_t, orF_f, notF_b, negF_i, iteF2_t, iteF2_f, dNil_ap, dCons_ap, seqF0, seqF1, seqF2, seqF3, seqF4, seqF5, dTup_ap, dLst_ap, dCall_ap, l2_add, l2_sub, l2_lt, l2_le, l2_gt, l2_ge, l2_eq, l2_ne, l2_tup20, l2_tup21, l1_abs, l1_int, l1_lenT, l1_lenL, l1_tupL, l1_tupT, l1_listS, l1_isI, l1_isB, l1_isT, dGcd_ap, gcdF_i, flo_ret, flo_nx, flo_exc, dSetN_ap, hasN0, chg0, setAt1, setAt2, setAt3, fin_some, rix0, rix1, rix2, rix3, pow1018, Nat.reduceSub, List.replicate, List.replicate_zero, bnd_ok, bnd_exc, List.getElem?_cons_zero, List.getElem?_cons_succ, List.set_cons_succ, List.set_cons_zero, Option.map_some, if_true, decide_true, decide_false, Bool.not_true, Bool.not_false]
    exact ⟨_, _, rfl, Int.emod_nonneg _ (by omega), Int.emod_lt_of_pos _ hm, ns, i, 0, _, rfl, hi, by omega, Int.emod_nonneg _ (by decide), Int.emod_lt_of_pos _ (by decide)⟩
  · have hp : 0 < m := by omega
    simp -implicitDefEqProofs only [sqF_nx, sqF_ret, sqF_brk, sqF_ct, sqF_exc, sbF_ok, sbF_exc, ifF_t, ifF_f, dSeq_ap, dSkip_ap, dAsg_ap, dAsgO_ap, dEx_ap, dRet_ap, dRetN_ap, dIfS_ap, dBrk_ap, dCt_ap, dRaise_ap, dFz_ap, dFor_ap, forR_ok, forR_exc, forD_nil, dK_ap, cellV_fz, cellB_fz, cellB_ow, dVar_ap, dBor_ap, dOp2_ap, dOp1_ap, dAnd_ap, dOr_ap, dNot_ap, dNeg_ap, dIf_ap, andF_t, andF_f, orF_t, orF_f, notF_b, negF_i, iteF2_t, iteF2_f, dNil_ap, dCons_ap, seqF0, seqF1, seqF2, seqF3, seqF4, seqF5, dTup_ap, dLst_ap, dCall_ap, l2_add, l2_sub, l2_lt, l2_le, l2_gt, l2_ge, l2_eq, l2_ne, l2_tup20, l2_tup21, l1_abs, l1_int, l1_lenT, l1_lenL, l1_tupL, l1_tupT, l1_listS, l1_isI, l1_isB, l1_isT, dGcd_ap, gcdF_i, flo_ret, flo_nx, flo_exc, dSetN_ap, hasN0, chg0, setAt1, setAt2, setAt3, fin_some, rix0, rix1, rix2, rix3, pow1018, Nat.reduceSub, List.replicate, List.replicate_zero, bnd_ok, bnd_exc, List.getElem?_cons_zero, List.getElem?_cons_succ, List.set_cons_succ, List.set_cons_zero, Option.map_some, if_true, decide_true, decide_false, Bool.not_true, Bool.not_false, e0, hp]
    rw [l2_mod hm]
    simp -implicitDefEqProofs only [sqF_nx, sqF_ret, sqF_brk, sqF_ct, sqF_exc, sbF_ok, sbF_exc, ifF_t, ifF_f, dSeq_ap, dSkip_ap, dAsg_ap, dAsgO_ap, dEx_ap, dRet_ap, dRetN_ap, dIfS_ap, dBrk_ap, dCt_ap, dRaise_ap, dFz_ap, dFor_ap, forR_ok, forR_exc, forD_nil, dK_ap, cellV_fz, cellB_fz, cellB_ow, dVar_ap, dBor_ap, dOp2_ap, dOp1_ap, dAnd_ap, dOr_ap, dNot_ap, dNeg_ap, dIf_ap, andF_t, andF_f, orF_t, orF_f, notF_b, negF_i, iteF2_t, iteF2_f, dNil_ap, dCons_ap, seqF0, seqF1, seqF2, seqF3, seqF4, seqF5, dTup_ap, dLst_ap, dCall_ap, l2_add, l2_sub, l2_lt, l2_le, l2_gt, l2_ge, l2_eq, l2_ne, l2_tup20, l2_tup21, l1_abs, l1_int, l1_lenT, l1_lenL, l1_tupL, l1_tupT, l1_listS, l1_isI, l1_isB, l1_isT, dGcd_ap, gcdF_i, flo_ret, flo_nx, flo_exc, dSetN_ap, hasN0, chg0, setAt1, setAt2, setAt3, fin_some, rix0, rix1, rix2, rix3, pow1018, Nat.reduceSub, List.replicate, List.replicate_zero, bnd_ok, bnd_exc, List.getElem?_cons_zero, List.getElem?_cons_succ, List.set_cons_succ, List.set_cons_zero, Option.map_some, if_true, decide_true, decide_false, Bool.not_true, Bool.not_false]
    rw [l2_div hm ho]
    simp -implicitDefEqProofs only [sqF_nx, sqF_ret, sqF_brk, sqF_ct, sqF_exc, sbF_ok, sbF_exc, ifF_t, ifF_f, dSeq_ap, dSkip_ap, dAsg_ap, dAsgO_ap, dEx_ap, dRet_ap, dRetN_ap, dIfS_ap, dBrk_ap, dCt_ap, dRaise_ap, dFz_ap, dFor_ap, forR_ok, forR_exc, forD_nil, dK_ap, cellV_fz, cellB_fz, cellB_ow, dVar_ap, dBor_ap, dOp2_ap, dOp1_ap, dAnd_ap, dOr_ap, dNot_ap, dNeg_ap, dIf_ap, andF_t, andF_f, orF_t, orF_f, notF_b, negF_i, iteF2_t, iteF2_f, dNil_ap, dCons_ap, seqF0, seqF1, seqF2, seqF3, seqF4, seqF5, dTup_ap, dLst_ap, dCall_ap, l2_add, l2_sub, l2_lt, l2_le, l2_gt, l2_ge, l2_eq, l2_ne, l2_tup20, l2_tup21, l1_abs, l1_int, l1_lenT, l1_lenL, l1_tupL, l1_tupT, l1_listS, l1_isI, l1_isB, l1_isT, dGcd_ap, gcdF_i, flo_ret, flo_nx, flo_exc, dSetN_ap, hasN0, chg0, setAt1, setAt2, setAt3, fin_some, rix0, rix1, rix2, rix3, pow1018, Nat.reduceSub, List.replicate, List.replicate_zero, bnd_ok, bnd_exc, List.getElem?_cons_zero, List.getElem?_cons_succ, List.set_cons_succ, List.set_cons_zero, Option.map_some, if_true, decide_true, decide_false, Bool.not_true, Bool.not_false]
    exact ⟨_, _, rfl, Int.emod_nonneg _ (by omega), Int.emod_lt_of_pos _ hm, ns, i, _, s, rfl, hi, Int.ediv_nonneg h0 (by omega), hs, hs'⟩
theorem take_ok : TakeOk (dDef 4 2 takeD) := by
  rintro R S many ⟨ns, i, m, s, rfl, hi, h0, hs, hs'⟩ hm ho
  rw [def2]
  by_cases hc : m = 0 ∧ i < ns.length
  · obtain ⟨rfl, hl⟩ := hc
    -- a new word
    have hlt : ((i : Int) < (ns.length : Int)) := by omega
    by_cases hw : (if ns[i] < 0 then -ns[i] else ns[i]) < 1000000000000000000
    · unfold takeD dst
      simp -implicitDefEqProofs only [sqF_nx, sqF_ret, sqF_brk, sqF_ct, sqF_exc, sbF_ok, sbF_exc, ifF_t, ifF_f, dSeq_ap, dSkip_ap, dAsg_ap, dAsgO_ap, dEx_ap, dRet_ap, dRetN_ap, dIfS_ap, dBrk_ap, dCt_ap, dRaise_ap, dFz_ap, dFor_ap, forR_ok, forR_exc, forD_nil, dK_ap, cellV_fz, cellB_fz, cellB_ow, dVar_ap, dBor_ap, dOp2_ap, dOp1_ap, dAnd_ap, dOr_ap, dNot_ap, dNeg_ap, dIf_ap, andF_t, andF_f, orF_t, orF_f, notF_b, negF_i, iteF2_t, iteF2_f, dNil_ap, dCons_ap, seqF0, seqF1, seqF2, seqF3, seqF4, seqF5, dTup_ap, dLst_ap, dCall_ap, l2_add, l2_sub, l2_lt, l2_le, l2_gt, l2_ge, l2_eq, l2_ne, l2_tup20, l2_tup21, l1_abs, l1_int, l1_lenT, l1_lenL, l1_tupL, l1_tupT, l1_listS, l1_isI, l1_isB, l1_isT, dGcd_ap, gcdF_i, flo_ret, flo_nx, flo_exc, dSetN_ap, hasN0, chg0, setAt1, setAt2, setAt3, fin_some, rix0, rix1, rix2, rix3, pow1018, Nat.reduceSub, List.replicate, List.replicate_zero, bnd_ok, bnd_exc, List.getElem?_cons_zero, List.getElem?_cons_succ, List.set_cons_succ, List.set_cons_zero, Option.map_some, if_true, decide_true, decide_false, Bool.not_true, Bool.not_false, List.length_map, hlt]
      rw [l2_lst (atI_ints hl)]
      simp -implicitDefEqProofs only [sqF_nx, sqF_ret, sqF_brk, sqF_ct, sqF_exc, sbF_ok, sbF_exc, ifF_t, ifF_f, dSeq_ap, dSkip_ap, dAsg_ap, dAsgO_ap, dEx_ap, dRet_ap, dRetN_ap, dIfS_ap, dBrk_ap, dCt_ap, dRaise_ap, dFz_ap, dFor_ap, forR_ok, forR_exc, forD_nil, dK_ap, cellV_fz, cellB_fz, cellB_ow, dVar_ap, dBor_ap, dOp2_ap, dOp1_ap, dAnd_ap, dOr_ap, dNot_ap, dNeg_ap, dIf_ap, andF_t, andF_f, orF_t, orF_f, notF_b, negF_i, iteF2_t, iteF2_f, dNil_ap, dCons_ap, seqF0, seqF1, seqF2, seqF3, seqF4, seqF5, dTup_ap, dLst_ap, dCall_ap, l2_add, l2_sub, l2_lt, l2_le, l2_gt, l2_ge, l2_eq, l2_ne, l2_tup20, l2_tup21, l1_abs, l1_int, l1_lenT, l1_lenL, l1_tupL, l1_tupT, l1_listS, l1_isI, l1_isB, l1_isT, dGcd_ap, gcdF_i, flo_ret, flo_nx, flo_exc, dSetN_ap, hasN0, chg0, setAt1, setAt2, setAt3, fin_some, rix0, rix1, rix2, rix3, pow1018, Nat.reduceSub, List.replicate, List.replicate_zero, bnd_ok, bnd_exc, List.getElem?_cons_zero, List.getElem?_cons_succ, List.set_cons_succ, List.set_cons_zero, Option.map_some, if_true, decide_true, decide_false, Bool.not_true, Bool.not_false, hw]
      rw [l2_mod hm]
      simp -implicitDefEqProofs only [sqF_nx, sqF_ret, sqF_brk, sqF_ct, sqF_exc, sbF_ok, sbF_exc, ifF_t, ifF_f, dSeq_ap, dSkip_ap, dAsg_ap, dAsgO_ap, dEx_ap, dRet_ap, dRetN_ap, dIfS_ap, dBrk_ap, dCt_ap, dRaise_ap, dFz_ap, dFor_ap, forR_ok, forR_exc, forD_nil, dK_ap, cellV_fz, cellB_fz, cellB_ow, dVar_ap, dBor_ap, dOp2_ap, dOp1_ap, dAnd_ap, dOr_ap, dNot_ap, dNeg_ap, dIf_ap, andF_t, andF_f, orF_t, orF_f, notF_b, negF_i, iteF2_t, iteF2_f, dNil_ap, dCons_ap, seqF0, seqF1, seqF2, seqF3, seqF4, seqF5, dTup_ap, dLst_ap, dCall_ap, l2_add, l2_sub, l2_lt, l2_le, l2_gt, l2_ge, l2_eq, l2_ne, l2_tup20, l2_tup21, l1_abs, l1_int, l1_lenT, l1_lenL, l1_tupL, l1_tupT, l1_listS, l1_isI, l1_isB, l1_isT, dGcd_ap, gcdF_i, flo_ret, flo_nx, flo_exc, dSetN_ap, hasN0, chg0, setAt1, setAt2, setAt3, fin_some, rix0, rix1, rix2, rix3, pow1018, Nat.reduceSub, List.replicate, List.replicate_zero, bnd_ok, bnd_exc, List.getElem?_cons_zero, List.getElem?_cons_succ, List.set_cons_succ, List.set_cons_zero, Option.map_some, if_true, decide_true, decide_false, Bool.not_true, Bool.not_false]
      exact ⟨_, _, rfl, Int.emod_nonneg _ (by omega), Int.emod_lt_of_pos _ hm, ns, i + 1, 0, s, rfl, by omega, by omega, hs, hs'⟩
    · have hp : 0 < (if ns[i] < 0 then -ns[i] else ns[i]) := by omega
      unfold takeD dst
      simp -implicitDefEqProofs only [sqF_nx, sqF_ret, sqF_brk, sqF_ct, sqF_exc, sbF_ok, sbF_exc, ifF_t, ifF_f, dSeq_ap, dSkip_ap, dAsg_ap, dAsgO_ap, dEx_ap, dRet_ap, dRetN_ap, dIfS_ap, dBrk_ap, dCt_ap, dRaise_ap, dFz_ap, dFor_ap, forR_ok, forR_exc, forD_nil, dK_ap, cellV_fz, cellB_fz, cellB_ow, dVar_ap, dBor_ap, dOp2_ap, dOp1_ap, dAnd_ap, dOr_ap, dNot_ap, dNeg_ap, dIf_ap, andF_t, andF_f, orF_t, orF_f, notF_b, negF_i, iteF2_t, iteF2_f, dNil_ap, dCons_ap, seqF0, seqF1, seqF2, seqF3, seqF4, seqF5, dTup_ap, dLst_ap, dCall_ap, l2_add, l2_sub, l2_lt, l2_le, l2_gt, l2_ge, l2_eq, l2_ne, l2_tup20, l2_tup21, l1_abs, l1_int, l1_lenT, l1_lenL, l1_tupL, l1_tupT, l1_listS, l1_isI, l1_isB, l1_isT, dGcd_ap, gcdF_i, flo_ret, flo_nx, flo_exc, dSetN_ap, hasN0, chg0, setAt1, setAt2, setAt3, fin_some, rix0, rix1, rix2, rix3, pow1018, Nat.reduceSub, List.replicate, List.replicate_zero, bnd_ok, bnd_exc, List.getElem?_cons_zero, List.getElem?_cons_succ, List.set_cons_succ, List.set_cons_zero, Option.map_some, if_true, decide_true, decide_false, Bool.not_true, Bool.not_false, List.length_map, hlt]
      rw [l2_lst (atI_ints hl)]
      simp -implicitDefEqProofs only [sqF_nx, sqF_ret, sqF_brk, sqF_ct, sqF_exc, sbF_ok, sbF_exc, ifF_t, ifF_f, dSeq_ap, dSkip_ap, dAsg_ap, dAsgO_ap, dEx_ap, dRet_ap, dRetN_ap, dIfS_ap, dBrk_ap, dCt_ap, dRaise_ap, dFz_ap, dFor_ap, forR_ok, forR_exc, forD_nil, dK_ap, cellV_fz, cellB_fz, cellB_ow, dVar_ap, dBor_ap, dOp2_ap, dOp1_ap, dAnd_ap, dOr_ap, dNot_ap, dNeg_ap, dIf_ap, andF_t, andF_f, orF_t, orF_f, notF_b, negF_i, iteF2_t, iteF2_f, dNil_ap, dCons_ap, seqF0, seqF1, seqF2, seqF3, seqF4, seqF5, dTup_ap, dLst_ap, dCall_ap, l2_add, l2_sub, l2_lt, l2_le, l2_gt, l2_ge, l2_eq, l2_ne, l2_tup20, l2_tup21, l1_abs, l1_int, l1_lenT, l1_lenL, l1_tupL, l1_tupT, l1_listS, l1_isI, l1_isB, l1_isT, dGcd_ap, gcdF_i, flo_ret, flo_nx, flo_exc, dSetN_ap, hasN0, chg0, setAt1, setAt2, setAt3, fin_some, rix0, rix1, rix2, rix3, pow1018, Nat.reduceSub, List.replicate, List.replicate_zero, bnd_ok, bnd_exc, List.getElem?_cons_zero, List.getElem?_cons_succ, List.set_cons_succ, List.set_cons_zero, Option.map_some, if_true, decide_true, decide_false, Bool.not_true, Bool.not_false, hw, hp]
      rw [l2_mod hm]
      simp -implicitDefEqProofs only [sqF_nx, sqF_ret, sqF_brk, sqF_ct, sqF_exc, sbF_ok, sbF_exc, ifF_t, ifF_f, dSeq_ap, dSkip_ap, dAsg_ap, dAsgO_ap, dEx_ap, dRet_ap, dRetN_ap, dIfS_ap, dBrk_ap, dCt_ap, dRaise_ap, dFz_ap, dFor_ap, forR_ok, forR_exc, forD_nil, dK_ap, cellV_fz, cellB_fz, cellB_ow, dVar_ap, dBor_ap, dOp2_ap, dOp1_ap, dAnd_ap, dOr_ap, dNot_ap, dNeg_ap, dIf_ap, andF_t, andF_f, orF_t, orF_f, notF_b, negF_i, iteF2_t, iteF2_f, dNil_ap, dCons_ap, seqF0, seqF1, seqF2, seqF3, seqF4, seqF5, dTup_ap, dLst_ap, dCall_ap, l2_add, l2_sub, l2_lt, l2_le, l2_gt, l2_ge, l2_eq, l2_ne, l2_tup20, l2_tup21, l1_abs, l1_int, l1_lenT, l1_lenL, l1_tupL, l1_tupT, l1_listS, l1_isI, l1_isB, l1_isT, dGcd_ap, gcdF_i, flo_ret, flo_nx, flo_exc, dSetN_ap, hasN0, chg0, setAt1, setAt2, setAt3, fin_some, rix0, rix1, rix2, rix3, pow1018, Nat.reduceSub, List.replicate, List.replicate_zero, bnd_ok, bnd_exc, List.getElem?_cons_zero, List.getElem?_cons_succ, List.set_cons_succ, List.set_cons_zero, Option.map_some, if_true, decide_true, decide_false, Bool.not_true, Bool.not_false]
      rw [l2_div hm ho]
      simp -implicitDefEqProofs only [sqF_nx, sqF_ret, sqF_brk, sqF_ct, sqF_exc, sbF_ok, sbF_exc, ifF_t, ifF_f, dSeq_ap, dSkip_ap, dAsg_ap, dAsgO_ap, dEx_ap, dRet_ap, dRetN_ap, dIfS_ap, dBrk_ap, dCt_ap, dRaise_ap, dFz_ap, dFor_ap, forR_ok, forR_exc, forD_nil, dK_ap, cellV_fz, cellB_fz, cellB_ow, dVar_ap, dBor_ap, dOp2_ap, dOp1_ap, dAnd_ap, dOr_ap, dNot_ap, dNeg_ap, dIf_ap, andF_t, andF_f, orF_t, orF_f, notF_b, negF_i, iteF2_t, iteF2_f, dNil_ap, dCons_ap, seqF0, seqF1, seqF2, seqF3, seqF4, seqF5, dTup_ap, dLst_ap, dCall_ap, l2_add, l2_sub, l2_lt, l2_le, l2_gt, l2_ge, l2_eq, l2_ne, l2_tup20, l2_tup21, l1_abs, l1_int, l1_lenT, l1_lenL, l1_tupL, l1_tupT, l1_listS, l1_isI, l1_isB, l1_isT, dGcd_ap, gcdF_i, flo_ret, flo_nx, flo_exc, dSetN_ap, hasN0, chg0, setAt1, setAt2, setAt3, fin_some, rix0, rix1, rix2, rix3, pow1018, Nat.reduceSub, List.replicate, List.replicate_zero, bnd_ok, bnd_exc, List.getElem?_cons_zero, List.getElem?_cons_succ, List.set_cons_succ, List.set_cons_zero, Option.map_some, if_true, decide_true, decide_false, Bool.not_true, Bool.not_false]
      exact ⟨_, _, rfl, Int.emod_nonneg _ (by omega), Int.emod_lt_of_pos _ hm, ns, i + 1, _, s, rfl, by omega, Int.ediv_nonneg (by omega) (by omega), hs, hs'⟩
  · exact take_low hm ho hi h0 hs hs' hc
/-! ### the beginning -/
def beginD : Dns := (dSeq (dAsg 1 (dK (.int 1))) (dSeq (dFor (dSeqI (dVar 0)) (tN 2) (dSeq (dAsg 1 (dOp2 gMod (dOp2 gAdd (dOp2 gAdd (dOp2 gMul (dBor 1) (dK (.int 69621))) (dOp2 gMod (dOp1 gInt (dBor 2)) (dK (.int 2147483629)))) (dK (.int 7))) (dK (.int 2147483647)))) dSkip)) (dSeq (dRet (dBox (dLst (dCons (dOp1 gList (dBor 0)) (dCons (dK (.int 0)) (dCons (dK (.int 0)) (dCons (dVar 1) dNil))))))) dSkip)))
def beginB : Dns := (dSeq (dAsg 1 (dOp2 gMod (dOp2 gAdd (dOp2 gAdd (dOp2 gMul (dBor 1) (dK (.int 69621))) (dOp2 gMod (dOp1 gInt (dBor 2)) (dK (.int 2147483629)))) (dK (.int 7))) (dK (.int 2147483647)))) dSkip)
theorem begin_loop {S : Store} {v : PV} : ∀ (ns : List Int) (s : Int) (c : Cell), 0 ≤ s → s < 2147483647 → ∃ (s' : Int) (c' : Cell), forD (tN 2) beginB (ns.map .int) [.fz v, .fz (.int s), c] S = .nx [.fz v, .fz (.int s'), c'] S ∧ 0 ≤ s' ∧ s' < 2147483647
  | [], s, c, h, h' => ⟨s, c, rfl, h, h'⟩
  | n :: ns, s, c, h, h' => by
    have st : beginB [.fz v, .fz (.int s), .fz (.int n)] S = .nx [.fz v, .fz (.int ((s * 69621 + n % 2147483629 + 7) % 2147483647)), .fz (.int n)] S := by
      unfold beginB
      simp -implicitDefEqProofs only [sqF_nx, sqF_ret, sqF_brk, sqF_ct, sqF_exc, sbF_ok, sbF_exc, ifF_t, ifF_f, dSeq_ap, dSkip_ap, dAsg_ap, dAsgO_ap, dEx_ap, dRet_ap, dRetN_ap, dIfS_ap, dBrk_ap, dCt_ap, dRaise_ap, dFz_ap, dFor_ap, forR_ok, forR_exc, forD_nil, dK_ap, cellV_fz, cellB_fz, cellB_ow, dVar_ap, dBor_ap, dOp2_ap, dOp1_ap, dAnd_ap, dOr_ap, dNot_ap, dNeg_ap, dIf_ap, andF_t, andF_f, orF_t, orF_f, notF_b, negF_i, iteF2_t, iteF2_f, dNil_ap, dCons_ap, seqF0, seqF1, seqF2, seqF3, seqF4, seqF5, dTup_ap, dLst_ap, dCall_ap, l2_add, l2_sub, l2_lt, l2_le, l2_gt, l2_ge, l2_eq, l2_ne, l2_tup20, l2_tup21, l1_abs, l1_int, l1_lenT, l1_lenL, l1_tupL, l1_tupT, l1_listS, l1_isI, l1_isB, l1_isT, dGcd_ap, gcdF_i, flo_ret, flo_nx, flo_exc, dSetN_ap, hasN0, chg0, setAt1, setAt2, setAt3, fin_some, rix0, rix1, rix2, rix3, pow1018, Nat.reduceSub, List.replicate, List.replicate_zero, bnd_ok, bnd_exc, List.getElem?_cons_zero, List.getElem?_cons_succ, List.set_cons_succ, List.set_cons_zero, Option.map_some, if_true, decide_true, decide_false, Bool.not_true, Bool.not_false]
      rw [l2_mul (okI_small (by omega)) (okI_small (by decide))]
      simp -implicitDefEqProofs only [sqF_nx, sqF_ret, sqF_brk, sqF_ct, sqF_exc, sbF_ok, sbF_exc, ifF_t, ifF_f, dSeq_ap, dSkip_ap, dAsg_ap, dAsgO_ap, dEx_ap, dRet_ap, dRetN_ap, dIfS_ap, dBrk_ap, dCt_ap, dRaise_ap, dFz_ap, dFor_ap, forR_ok, forR_exc, forD_nil, dK_ap, cellV_fz, cellB_fz, cellB_ow, dVar_ap, dBor_ap, dOp2_ap, dOp1_ap, dAnd_ap, dOr_ap, dNot_ap, dNeg_ap, dIf_ap, andF_t, andF_f, orF_t, orF_f, notF_b, negF_i, iteF2_t, iteF2_f, dNil_ap, dCons_ap, seqF0, seqF1, seqF2, seqF3, seqF4, seqF5, dTup_ap, dLst_ap, dCall_ap, l2_add, l2_sub, l2_lt, l2_le, l2_gt, l2_ge, l2_eq, l2_ne, l2_tup20, l2_tup21, l1_abs, l1_int, l1_lenT, l1_lenL, l1_tupL, l1_tupT, l1_listS, l1_isI, l1_isB, l1_isT, dGcd_ap, gcdF_i, flo_ret, flo_nx, flo_exc, dSetN_ap, hasN0, chg0, setAt1, setAt2, setAt3, fin_some, rix0, rix1, rix2, rix3, pow1018, Nat.reduceSub, List.replicate, List.replicate_zero, bnd_ok, bnd_exc, List.getElem?_cons_zero, List.getElem?_cons_succ, List.set_cons_succ, List.set_cons_zero, Option.map_some, if_true, decide_true, decide_false, Bool.not_true, Bool.not_false]
      rw [l2_mod (by decide)]
      simp -implicitDefEqProofs only [sqF_nx, sqF_ret, sqF_brk, sqF_ct, sqF_exc, sbF_ok, sbF_exc, ifF_t, ifF_f, dSeq_ap, dSkip_ap, dAsg_ap, dAsgO_ap, dEx_ap, dRet_ap, dRetN_ap, dIfS_ap, dBrk_ap, dCt_ap, dRaise_ap, dFz_ap, dFor_ap, forR_ok, forR_exc, forD_nil, dK_ap, cellV_fz, cellB_fz, cellB_ow, dVar_ap, dBor_ap, dOp2_ap, dOp1_ap, dAnd_ap, dOr_ap, dNot_ap, dNeg_ap, dIf_ap, andF_t, andF_f, orF_t, orF_f, notF_b, negF_i, iteF2_t, iteF2_f, dNil_ap, dCons_ap, seqF0, seqF1, seqF2, seqF3, seqF4, seqF5, dTup_ap, dLst_ap, dCall_ap, l2_add, l2_sub, l2_lt, l2_le, l2_gt, l2_ge, l2_eq, l2_ne, l2_tup20, l2_tup21, l1_abs, l1_int, l1_lenT, l1_lenL, l1_tupL, l1_tupT, l1_listS, l1_isI, l1_isB, l1_isT, dGcd_ap, gcdF_i, flo_ret, flo_nx, flo_exc, dSetN_ap, hasN0, chg0, setAt1, setAt2, setAt3, fin_some, rix0, rix1, rix2, rix3, pow1018, Nat.reduceSub, List.replicate, List.replicate_zero, bnd_ok, bnd_exc, List.getElem?_cons_zero, List.getElem?_cons_succ, List.set_cons_succ, List.set_cons_zero, Option.map_some, if_true, decide_true, decide_false, Bool.not_true, Bool.not_false]
      rw [l2_mod (by decide)]
      simp -implicitDefEqProofs only [sqF_nx, sqF_ret, sqF_brk, sqF_ct, sqF_exc, sbF_ok, sbF_exc, ifF_t, ifF_f, dSeq_ap, dSkip_ap, dAsg_ap, dAsgO_ap, dEx_ap, dRet_ap, dRetN_ap, dIfS_ap, dBrk_ap, dCt_ap, dRaise_ap, dFz_ap, dFor_ap, forR_ok, forR_exc, forD_nil, dK_ap, cellV_fz, cellB_fz, cellB_ow, dVar_ap, dBor_ap, dOp2_ap, dOp1_ap, dAnd_ap, dOr_ap, dNot_ap, dNeg_ap, dIf_ap, andF_t, andF_f, orF_t, orF_f, notF_b, negF_i, iteF2_t, iteF2_f, dNil_ap, dCons_ap, seqF0, seqF1, seqF2, seqF3, seqF4, seqF5, dTup_ap, dLst_ap, dCall_ap, l2_add, l2_sub, l2_lt, l2_le, l2_gt, l2_ge, l2_eq, l2_ne, l2_tup20, l2_tup21, l1_abs, l1_int, l1_lenT, l1_lenL, l1_tupL, l1_tupT, l1_listS, l1_isI, l1_isB, l1_isT, dGcd_ap, gcdF_i, flo_ret, flo_nx, flo_exc, dSetN_ap, hasN0, chg0, setAt1, setAt2, setAt3, fin_some, rix0, rix1, rix2, rix3, pow1018, Nat.reduceSub, List.replicate, List.replicate_zero, bnd_ok, bnd_exc, List.getElem?_cons_zero, List.getElem?_cons_succ, List.set_cons_succ, List.set_cons_zero, Option.map_some, if_true, decide_true, decide_false, Bool.not_true, Bool.not_false]
    obtain ⟨s', c', e, q⟩ := begin_loop ns ((s * 69621 + n % 2147483629 + 7) % 2147483647) (.fz (.int n)) (Int.emod_nonneg _ (by decide)) (Int.emod_lt_of_pos _ (by decide))
    refine ⟨s', c', ?_, q⟩
    rw [← e]
    show (match tN 2 (.int n) [.fz v, .fz (.int s), c] with
      | none => Flo.bad
      | some ρ1 => match beginB ρ1 S with
        | .nx ρ2 S2 => forD (tN 2) beginB (ns.map .int) ρ2 S2
        | .ct ρ2 S2 => forD (tN 2) beginB (ns.map .int) ρ2 S2
        | .brk ρ2 S2 => .nx ρ2 S2
        | .ret v S2 => .ret v S2
        | .exc e ρ2 S2 => .exc e ρ2 S2
        | .bad => .bad) = _
    show (match beginB [.fz v, .fz (.int s), .fz (.int n)] S with
        | .nx ρ2 S2 => forD (tN 2) beginB (ns.map .int) ρ2 S2
        | .ct ρ2 S2 => forD (tN 2) beginB (ns.map .int) ρ2 S2
        | .brk ρ2 S2 => .nx ρ2 S2
        | .ret v S2 => .ret v S2
        | .exc e ρ2 S2 => .exc e ρ2 S2
        | .bad => .bad) = _
    rw [st]
theorem begin_ok (ns : List Int) : ∃ s, dDef 3 1 beginD [.scr ns] [] = .ok (.ref 0) [.lst (dst ns 0 0 s)] ∧ 0 ≤ s ∧ s < 2147483647 := by
  obtain ⟨s, c, e, h⟩ := begin_loop (S := []) (v := .scr ns) ns 1 .un (by decide) (by decide)
  refine ⟨s, ?_, h⟩
  rw [def1]
  have e1 : dSeqI (dVar 0) [.fz (.scr ns), .fz (.int 1), .un] [] = .ok (ns.map .int) [] := rfl
  unfold beginD
  simp -implicitDefEqProofs only [sqF_nx, sqF_ret, sqF_brk, sqF_ct, sqF_exc, sbF_ok, sbF_exc, ifF_t, ifF_f, dSeq_ap, dSkip_ap, dAsg_ap, dAsgO_ap, dEx_ap, dRet_ap, dRetN_ap, dIfS_ap, dBrk_ap, dCt_ap, dRaise_ap, dFz_ap, dFor_ap, forR_ok, forR_exc, forD_nil, dK_ap, cellV_fz, cellB_fz, cellB_ow, dVar_ap, dBor_ap, dOp2_ap, dOp1_ap, dAnd_ap, dOr_ap, dNot_ap, dNeg_ap, dIf_ap, andF_t, andF_f, orF_t, orF_f, notF_b, negF_i, iteF2_t, iteF2_f, dNil_ap, dCons_ap, seqF0, seqF1, seqF2, seqF3, seqF4, seqF5, dTup_ap, dLst_ap, dCall_ap, l2_add, l2_sub, l2_lt, l2_le, l2_gt, l2_ge, l2_eq, l2_ne, l2_tup20, l2_tup21, l1_abs, l1_int, l1_lenT, l1_lenL, l1_tupL, l1_tupT, l1_listS, l1_isI, l1_isB, l1_isT, dGcd_ap, gcdF_i, flo_ret, flo_nx, flo_exc, dSetN_ap, hasN0, chg0, setAt1, setAt2, setAt3, fin_some, rix0, rix1, rix2, rix3, pow1018, Nat.reduceSub, List.replicate, List.replicate_zero, bnd_ok, bnd_exc, List.getElem?_cons_zero, List.getElem?_cons_succ, List.set_cons_succ, List.set_cons_zero, Option.map_some, if_true, decide_true, decide_false, Bool.not_true, Bool.not_false]
  rw [e1]
  simp -implicitDefEqProofs only [sqF_nx, sqF_ret, sqF_brk, sqF_ct, sqF_exc, sbF_ok, sbF_exc, ifF_t, ifF_f, dSeq_ap, dSkip_ap, dAsg_ap, dAsgO_ap, dEx_ap, dRet_ap, dRetN_ap, dIfS_ap, dBrk_ap, dCt_ap, dRaise_ap, dFz_ap, dFor_ap, forR_ok, forR_exc, forD_nil, dK_ap, cellV_fz, cellB_fz, cellB_ow, dVar_ap, dBor_ap, dOp2_ap, dOp1_ap, dAnd_ap, dOr_ap, dNot_ap, dNeg_ap, dIf_ap, andF_t, andF_f, orF_t, orF_f, notF_b, negF_i, iteF2_t, iteF2_f, dNil_ap, dCons_ap, seqF0, seqF1, seqF2, seqF3, seqF4, seqF5, dTup_ap, dLst_ap, dCall_ap, l2_add, l2_sub, l2_lt, l2_le, l2_gt, l2_ge, l2_eq, l2_ne, l2_tup20, l2_tup21, l1_abs, l1_int, l1_lenT, l1_lenL, l1_tupL, l1_tupT, l1_listS, l1_isI, l1_isB, l1_isT, dGcd_ap, gcdF_i, flo_ret, flo_nx, flo_exc, dSetN_ap, hasN0, chg0, setAt1, setAt2, setAt3, fin_some, rix0, rix1, rix2, rix3, pow1018, Nat.reduceSub, List.replicate, List.replicate_zero, bnd_ok, bnd_exc, List.getElem?_cons_zero, List.getElem?_cons_succ, List.set_cons_succ, List.set_cons_zero, Option.map_some, if_true, decide_true, decide_false, Bool.not_true, Bool.not_false]
  have e : forD (tN 2) (dSeq (dAsg 1 (dOp2 gMod (dOp2 gAdd (dOp2 gAdd (dOp2 gMul (dBor 1) (dK (.int 69621))) (dOp2 gMod (dOp1 gInt (dBor 2)) (dK (.int 2147483629)))) (dK (.int 7))) (dK (.int 2147483647)))) dSkip) (ns.map .int) [.fz (.scr ns), .fz (.int 1), .un] [] = .nx [.fz (.scr ns), .fz (.int s), c] [] := e
  rw [e]
  rfl
theorem begin_dr {ns : List Int} {s : Int} (h : 0 ≤ s ∧ s < 2147483647) : Dr [] [.lst (dst ns 0 0 s)] := ⟨ns, 0, 0, s, rfl, Nat.zero_le _, by decide, h.1, h.2⟩
/-! ### a number from -most to most -/
def SignedOk (f : List PV → Store → Res PV) : Prop := ∀ R S most, Dr R S → 0 ≤ most → most < 2 ^ 200 → ∃ (r : Int) (S' : Store), f [.ref 0, .int most] S = .ok (.int r) S' ∧ -most ≤ r ∧ r ≤ most ∧ Dr R S'
def signedD (f : List PV → Store → Res PV) : Dns := (dSeq (dRet (dOp2 gSub (dCall f (dCons (dVar 0) (dCons (dOp2 gAdd (dOp2 gMul (dK (.int 2)) (dBor 1)) (dK (.int 1))) dNil))) (dBor 1))) dSkip)
theorem signed_ok {f : List PV → Store → Res PV} (hf : TakeOk f) : SignedOk (dDef 2 2 (signedD f)) := by
  intro R S most hd h0 h1
  obtain ⟨r, S', e, q1, q2, q3⟩ := hf R S (2 * most + 1) hd (by omega) (okI_small (by omega))
  refine ⟨r - most, S', ?_, by omega, by omega, q3⟩
  rw [def2]
  unfold signedD
  simp -implicitDefEqProofs only [sqF_nx, sqF_ret, sqF_brk, sqF_ct, sqF_exc, sbF_ok, sbF_exc, ifF_t, ifF_f, dSeq_ap, dSkip_ap, dAsg_ap, dAsgO_ap, dEx_ap, dRet_ap, dRetN_ap, dIfS_ap, dBrk_ap, dCt_ap, dRaise_ap, dFz_ap, dFor_ap, forR_ok, forR_exc, forD_nil, dK_ap, cellV_fz, cellB_fz, cellB_ow, dVar_ap, dBor_ap, dOp2_ap, dOp1_ap, dAnd_ap, dOr_ap, dNot_ap, dNeg_ap, dIf_ap, andF_t, andF_f, orF_t, orF_f, notF_b, negF_i, iteF2_t, iteF2_f, dNil_ap, dCons_ap, seqF0, seqF1, seqF2, seqF3, seqF4, seqF5, dTup_ap, dLst_ap, dCall_ap, l2_add, l2_sub, l2_lt, l2_le, l2_gt, l2_ge, l2_eq, l2_ne, l2_tup20, l2_tup21, l1_abs, l1_int, l1_lenT, l1_lenL, l1_tupL, l1_tupT, l1_listS, l1_isI, l1_isB, l1_isT, dGcd_ap, gcdF_i, flo_ret, flo_nx, flo_exc, dSetN_ap, hasN0, chg0, setAt1, setAt2, setAt3, fin_some, rix0, rix1, rix2, rix3, pow1018, Nat.reduceSub, List.replicate, List.replicate_zero, bnd_ok, bnd_exc, List.getElem?_cons_zero, List.getElem?_cons_succ, List.set_cons_succ, List.set_cons_zero, Option.map_some, if_true, decide_true, decide_false, Bool.not_true, Bool.not_false]
  rw [l2_mul (okI_small (by decide)) (okI_small (by omega))]
  simp -implicitDefEqProofs only [sqF_nx, sqF_ret, sqF_brk, sqF_ct, sqF_exc, sbF_ok, sbF_exc, ifF_t, ifF_f, dSeq_ap, dSkip_ap, dAsg_ap, dAsgO_ap, dEx_ap, dRet_ap, dRetN_ap, dIfS_ap, dBrk_ap, dCt_ap, dRaise_ap, dFz_ap, dFor_ap, forR_ok, forR_exc, forD_nil, dK_ap, cellV_fz, cellB_fz, cellB_ow, dVar_ap, dBor_ap, dOp2_ap, dOp1_ap, dAnd_ap, dOr_ap, dNot_ap, dNeg_ap, dIf_ap, andF_t, andF_f, orF_t, orF_f, notF_b, negF_i, iteF2_t, iteF2_f, dNil_ap, dCons_ap, seqF0, seqF1, seqF2, seqF3, seqF4, seqF5, dTup_ap, dLst_ap, dCall_ap, l2_add, l2_sub, l2_lt, l2_le, l2_gt, l2_ge, l2_eq, l2_ne, l2_tup20, l2_tup21, l1_abs, l1_int, l1_lenT, l1_lenL, l1_tupL, l1_tupT, l1_listS, l1_isI, l1_isB, l1_isT, dGcd_ap, gcdF_i, flo_ret, flo_nx, flo_exc, dSetN_ap, hasN0, chg0, setAt1, setAt2, setAt3, fin_some, rix0, rix1, rix2, rix3, pow1018, Nat.reduceSub, List.replicate, List.replicate_zero, bnd_ok, bnd_exc, List.getElem?_cons_zero, List.getElem?_cons_succ, List.set_cons_succ, List.set_cons_zero, Option.map_some, if_true, decide_true, decide_false, Bool.not_true, Bool.not_false]
  rw [e]
  simp -implicitDefEqProofs only [sqF_nx, sqF_ret, sqF_brk, sqF_ct, sqF_exc, sbF_ok, sbF_exc, ifF_t, ifF_f, dSeq_ap, dSkip_ap, dAsg_ap, dAsgO_ap, dEx_ap, dRet_ap, dRetN_ap, dIfS_ap, dBrk_ap, dCt_ap, dRaise_ap, dFz_ap, dFor_ap, forR_ok, forR_exc, forD_nil, dK_ap, cellV_fz, cellB_fz, cellB_ow, dVar_ap, dBor_ap, dOp2_ap, dOp1_ap, dAnd_ap, dOr_ap, dNot_ap, dNeg_ap, dIf_ap, andF_t, andF_f, orF_t, orF_f, notF_b, negF_i, iteF2_t, iteF2_f, dNil_ap, dCons_ap, seqF0, seqF1, seqF2, seqF3, seqF4, seqF5, dTup_ap, dLst_ap, dCall_ap, l2_add, l2_sub, l2_lt, l2_le, l2_gt, l2_ge, l2_eq, l2_ne, l2_tup20, l2_tup21, l1_abs, l1_int, l1_lenT, l1_lenL, l1_tupL, l1_tupT, l1_listS, l1_isI, l1_isB, l1_isT, dGcd_ap, gcdF_i, flo_ret, flo_nx, flo_exc, dSetN_ap, hasN0, chg0, setAt1, setAt2, setAt3, fin_some, rix0, rix1, rix2, rix3, pow1018, Nat.reduceSub, List.replicate, List.replicate_zero, bnd_ok, bnd_exc, List.getElem?_cons_zero, List.getElem?_cons_succ, List.set_cons_succ, List.set_cons_zero, Option.map_some, if_true, decide_true, decide_false, Bool.not_true, Bool.not_false]
end Py
/-! Fractions: what the text's defs make of two ints. -/
namespace Py
open L2

def gz (p q : Int) : Int := ((Nat.gcd p.natAbs q.natAbs : Nat) : Int)
/-- a sign moved, then the lowest terms -/
def frN (p q : Int) : Int := (if q < 0 then -p else p) / gz p q
def frD (p q : Int) : Int := (if q < 0 then -q else q) / gz p q
/-- a pair as the text has it -/
def fr (a b : Int) : PV := .tup [.int a, .int b]
theorem gz_pos {p q : Int} (h : q ≠ 0) : 0 < gz p q := by
  have := Int.gcd_pos_of_ne_zero_right p h
  unfold gz
  have e : Nat.gcd p.natAbs q.natAbs = Int.gcd p q := rfl
  omega
theorem gz_le {p q : Int} (h : q ≠ 0) : gz p q ≤ q.natAbs := by
  have : Nat.gcd p.natAbs q.natAbs ≤ q.natAbs := Nat.gcd_le_right _ (by omega)
  unfold gz; omega
theorem gz_dp (p q : Int) : gz p q ∣ (if q < 0 then -p else p) := by
  have h : gz p q ∣ p := Int.gcd_dvd_left p q
  split
  · exact Int.dvd_neg.mpr h
  · exact h
theorem gz_dq (p q : Int) : gz p q ∣ (if q < 0 then -q else q) := by
  have h : gz p q ∣ q := Int.gcd_dvd_right p q
  split
  · exact Int.dvd_neg.mpr h
  · exact h
theorem frN_mul (p q : Int) : frN p q * gz p q = if q < 0 then -p else p := Int.ediv_mul_cancel (gz_dp p q)
theorem frD_mul (p q : Int) : frD p q * gz p q = if q < 0 then -q else q := Int.ediv_mul_cancel (gz_dq p q)
theorem frD_pos {p q : Int} (h : q ≠ 0) : 0 < frD p q := by
  have h1 := frD_mul p q
  have h2 := gz_pos (p := p) h
  have h3 : 0 < frD p q * gz p q := by rw [h1]; split <;> omega
  exact Int.pos_of_mul_pos_left h3 h2
theorem fr_cross {p q : Int} (h : q ≠ 0) : frN p q * q = p * frD p q := by
  have h1 := frN_mul p q
  have h2 := frD_mul p q
  have h3 := gz_pos (p := p) h
  have key : (frN p q * q) * gz p q = (p * frD p q) * gz p q := by
    rw [Int.mul_right_comm, h1, Int.mul_assoc p, h2]
    split
    · rw [Int.neg_mul, Int.mul_neg]
    · rfl
  exact Int.eq_of_mul_eq_mul_right (by omega) key
theorem fr_coprime {p q : Int} (h : q ≠ 0) : Nat.gcd (frN p q).natAbs (frD p q).natAbs = 1 := by
  have h0 := Int.gcd_pos_of_ne_zero_right p h
  have e1 : (frN p q).natAbs = p.natAbs / Nat.gcd p.natAbs q.natAbs := by
    unfold frN
    rw [Int.natAbs_ediv_of_dvd (gz_dp p q)]
    have : (gz p q).natAbs = Nat.gcd p.natAbs q.natAbs := rfl
    rw [this]; split <;> simp
  have e2 : (frD p q).natAbs = q.natAbs / Nat.gcd p.natAbs q.natAbs := by
    unfold frD
    rw [Int.natAbs_ediv_of_dvd (gz_dq p q)]
    have : (gz p q).natAbs = Nat.gcd p.natAbs q.natAbs := rfl
    rw [this]; split <;> simp
  rw [e1, e2]
  exact Nat.coprime_div_gcd_div_gcd h0
theorem frN_le (p q : Int) : (frN p q).natAbs ≤ p.natAbs := by
  refine Nat.le_trans (Int.natAbs_ediv_le_natAbs _ _) ?_
  split <;> simp
theorem frD_le (p q : Int) : (frD p q).natAbs ≤ q.natAbs := by
  refine Nat.le_trans (Int.natAbs_ediv_le_natAbs _ _) ?_
  split <;> simp
/-! ### the defs -/
def fractionD : Dns := (dSeq (dIfS (dOp2 gEq (dBor 1) (dK (.int 0))) (dSeq (dRaise .zeroDen) dSkip) dSkip) (dSeq (dIfS (dOp2 gLt (dBor 1) (dK (.int 0))) (dSeq (dAsg 0 (dNeg (dVar 0))) (dSeq (dAsg 1 (dNeg (dVar 1))) dSkip)) dSkip) (dSeq (dAsg 2 (dGcd (dVar 0) (dVar 1))) (dSeq (dRet (dTup (dCons (dOp2 gDiv (dBor 0) (dBor 2)) (dCons (dOp2 gDiv (dBor 1) (dBor 2)) dNil)))) dSkip))))
theorem fraction0 {p : Int} {S : Store} : dDef 3 2 fractionD [.int p, .int 0] S = .exc .zeroDen S := by
  rw [def2]; unfold fractionD
  simp -implicitDefEqProofs only [sqF_nx, sqF_ret, sqF_brk, sqF_ct, sqF_exc, sbF_ok, sbF_exc, ifF_t, ifF_f, dSeq_ap, dSkip_ap, dAsg_ap, dAsgO_ap, dEx_ap, dRet_ap, dRetN_ap, dIfS_ap, dBrk_ap, dCt_ap, dRaise_ap, dFz_ap, dFor_ap, forR_ok, forR_exc, forD_nil, dK_ap, cellV_fz, cellB_fz, cellB_ow, dVar_ap, dBor_ap, dOp2_ap, dOp1_ap, dAnd_ap, dOr_ap, dNot_ap, dNeg_ap, dIf_ap, andF_t, andF_f, orF_t, orF_f, notF_b, negF_i, iteF2_t, iteF2_f, dNil_ap, dCons_ap, seqF0, seqF1, seqF2, seqF3, seqF4, seqF5, dTup_ap, dLst_ap, dCall_ap, l2_add, l2_sub, l2_lt, l2_le, l2_gt, l2_ge, l2_eq, l2_ne, l2_tup20, l2_tup21, l1_abs, l1_int, l1_lenT, l1_lenL, l1_tupL, l1_tupT, l1_listS, l1_isI, l1_isB, l1_isT, dGcd_ap, gcdF_i, flo_ret, flo_nx, flo_exc, dSetN_ap, hasN0, chg0, setAt1, setAt2, setAt3, fin_some, rix0, rix1, rix2, rix3, pow1018, Nat.reduceSub, List.replicate, List.replicate_zero, bnd_ok, bnd_exc, List.getElem?_cons_zero, List.getElem?_cons_succ, List.set_cons_succ, List.set_cons_zero, Option.map_some, if_true, decide_true, decide_false, Bool.not_true, Bool.not_false]
theorem fraction_ok {p q : Int} {S : Store} (h : q ≠ 0) (hq : q.natAbs < 2 ^ 8000) : dDef 3 2 fractionD [.int p, .int q] S = .ok (fr (frN p q) (frD p q)) S := by
  rw [def2]; unfold fractionD
  have hg : okI (gz p q) = true := by
    have := gz_le (p := p) h
    refine okI_of (b := 8000) ?_ (Nat.le_refl _)
    have := gz_pos (p := p) h
    omega
  have egz : gz p q = ((Nat.gcd p.natAbs q.natAbs : Nat) : Int) := rfl
  by_cases hn : q < 0
  · simp -implicitDefEqProofs only [sqF_nx, sqF_ret, sqF_brk, sqF_ct, sqF_exc, sbF_ok, sbF_exc, ifF_t, ifF_f, dSeq_ap, dSkip_ap, dAsg_ap, dAsgO_ap, dEx_ap, dRet_ap, dRetN_ap, dIfS_ap, dBrk_ap, dCt_ap, dRaise_ap, dFz_ap, dFor_ap, forR_ok, forR_exc, forD_nil, dK_ap, cellV_fz, cellB_fz, cellB_ow, dVar_ap, dBor_ap, dOp2_ap, dOp1_ap, dAnd_ap, dOr_ap, dNot_ap, dNeg_ap, dIf_ap, andF_t, andF_f, orF_t, orF_f, notF_b, negF_i, iteF2_t, iteF2_f, dNil_ap, dCons_ap, seqF0, seqF1, seqF2, seqF3, seqF4, seqF5, dTup_ap, dLst_ap, dCall_ap, l2_add, l2_sub, l2_lt, l2_le, l2_gt, l2_ge, l2_eq, l2_ne, l2_tup20, l2_tup21, l1_abs, l1_int, l1_lenT, l1_lenL, l1_tupL, l1_tupT, l1_listS, l1_isI, l1_isB, l1_isT, dGcd_ap, gcdF_i, flo_ret, flo_nx, flo_exc, dSetN_ap, hasN0, chg0, setAt1, setAt2, setAt3, fin_some, rix0, rix1, rix2, rix3, pow1018, Nat.reduceSub, List.replicate, List.replicate_zero, bnd_ok, bnd_exc, List.getElem?_cons_zero, List.getElem?_cons_succ, List.set_cons_succ, List.set_cons_zero, Option.map_some, if_true, decide_true, decide_false, Bool.not_true, Bool.not_false, h, hn, Int.natAbs_neg]
    rw [← egz]
    rw [l2_div (gz_pos h) hg]
    simp -implicitDefEqProofs only [sqF_nx, sqF_ret, sqF_brk, sqF_ct, sqF_exc, sbF_ok, sbF_exc, ifF_t, ifF_f, dSeq_ap, dSkip_ap, dAsg_ap, dAsgO_ap, dEx_ap, dRet_ap, dRetN_ap, dIfS_ap, dBrk_ap, dCt_ap, dRaise_ap, dFz_ap, dFor_ap, forR_ok, forR_exc, forD_nil, dK_ap, cellV_fz, cellB_fz, cellB_ow, dVar_ap, dBor_ap, dOp2_ap, dOp1_ap, dAnd_ap, dOr_ap, dNot_ap, dNeg_ap, dIf_ap, andF_t, andF_f, orF_t, orF_f, notF_b, negF_i, iteF2_t, iteF2_f, dNil_ap, dCons_ap, seqF0, seqF1, seqF2, seqF3, seqF4, seqF5, dTup_ap, dLst_ap, dCall_ap, l2_add, l2_sub, l2_lt, l2_le, l2_gt, l2_ge, l2_eq, l2_ne, l2_tup20, l2_tup21, l1_abs, l1_int, l1_lenT, l1_lenL, l1_tupL, l1_tupT, l1_listS, l1_isI, l1_isB, l1_isT, dGcd_ap, gcdF_i, flo_ret, flo_nx, flo_exc, dSetN_ap, hasN0, chg0, setAt1, setAt2, setAt3, fin_some, rix0, rix1, rix2, rix3, pow1018, Nat.reduceSub, List.replicate, List.replicate_zero, bnd_ok, bnd_exc, List.getElem?_cons_zero, List.getElem?_cons_succ, List.set_cons_succ, List.set_cons_zero, Option.map_some, if_true, decide_true, decide_false, Bool.not_true, Bool.not_false]
    rw [l2_div (gz_pos h) hg]
    simp -implicitDefEqProofs only [sqF_nx, sqF_ret, sqF_brk, sqF_ct, sqF_exc, sbF_ok, sbF_exc, ifF_t, ifF_f, dSeq_ap, dSkip_ap, dAsg_ap, dAsgO_ap, dEx_ap, dRet_ap, dRetN_ap, dIfS_ap, dBrk_ap, dCt_ap, dRaise_ap, dFz_ap, dFor_ap, forR_ok, forR_exc, forD_nil, dK_ap, cellV_fz, cellB_fz, cellB_ow, dVar_ap, dBor_ap, dOp2_ap, dOp1_ap, dAnd_ap, dOr_ap, dNot_ap, dNeg_ap, dIf_ap, andF_t, andF_f, orF_t, orF_f, notF_b, negF_i, iteF2_t, iteF2_f, dNil_ap, dCons_ap, seqF0, seqF1, seqF2, seqF3, seqF4, seqF5, dTup_ap, dLst_ap, dCall_ap, l2_add, l2_sub, l2_lt, l2_le, l2_gt, l2_ge, l2_eq, l2_ne, l2_tup20, l2_tup21, l1_abs, l1_int, l1_lenT, l1_lenL, l1_tupL, l1_tupT, l1_listS, l1_isI, l1_isB, l1_isT, dGcd_ap, gcdF_i, flo_ret, flo_nx, flo_exc, dSetN_ap, hasN0, chg0, setAt1, setAt2, setAt3, fin_some, rix0, rix1, rix2, rix3, pow1018, Nat.reduceSub, List.replicate, List.replicate_zero, bnd_ok, bnd_exc, List.getElem?_cons_zero, List.getElem?_cons_succ, List.set_cons_succ, List.set_cons_zero, Option.map_some, if_true, decide_true, decide_false, Bool.not_true, Bool.not_false]
    unfold fr frN frD
    rw [if_pos hn, if_pos hn]
  · simp -implicitDefEqProofs only [sqF_nx, sqF_ret, sqF_brk, sqF_ct, sqF_exc, sbF_ok, sbF_exc, ifF_t, ifF_f, dSeq_ap, dSkip_ap, dAsg_ap, dAsgO_ap, dEx_ap, dRet_ap, dRetN_ap, dIfS_ap, dBrk_ap, dCt_ap, dRaise_ap, dFz_ap, dFor_ap, forR_ok, forR_exc, forD_nil, dK_ap, cellV_fz, cellB_fz, cellB_ow, dVar_ap, dBor_ap, dOp2_ap, dOp1_ap, dAnd_ap, dOr_ap, dNot_ap, dNeg_ap, dIf_ap, andF_t, andF_f, orF_t, orF_f, notF_b, negF_i, iteF2_t, iteF2_f, dNil_ap, dCons_ap, seqF0, seqF1, seqF2, seqF3, seqF4, seqF5, dTup_ap, dLst_ap, dCall_ap, l2_add, l2_sub, l2_lt, l2_le, l2_gt, l2_ge, l2_eq, l2_ne, l2_tup20, l2_tup21, l1_abs, l1_int, l1_lenT, l1_lenL, l1_tupL, l1_tupT, l1_listS, l1_isI, l1_isB, l1_isT, dGcd_ap, gcdF_i, flo_ret, flo_nx, flo_exc, dSetN_ap, hasN0, chg0, setAt1, setAt2, setAt3, fin_some, rix0, rix1, rix2, rix3, pow1018, Nat.reduceSub, List.replicate, List.replicate_zero, bnd_ok, bnd_exc, List.getElem?_cons_zero, List.getElem?_cons_succ, List.set_cons_succ, List.set_cons_zero, Option.map_some, if_true, decide_true, decide_false, Bool.not_true, Bool.not_false, h, hn, Int.natAbs_neg]
    rw [← egz]
    rw [l2_div (gz_pos h) hg]
    simp -implicitDefEqProofs only [sqF_nx, sqF_ret, sqF_brk, sqF_ct, sqF_exc, sbF_ok, sbF_exc, ifF_t, ifF_f, dSeq_ap, dSkip_ap, dAsg_ap, dAsgO_ap, dEx_ap, dRet_ap, dRetN_ap, dIfS_ap, dBrk_ap, dCt_ap, dRaise_ap, dFz_ap, dFor_ap, forR_ok, forR_exc, forD_nil, dK_ap, cellV_fz, cellB_fz, cellB_ow, dVar_ap, dBor_ap, dOp2_ap, dOp1_ap, dAnd_ap, dOr_ap, dNot_ap, dNeg_ap, dIf_ap, andF_t, andF_f, orF_t, orF_f, notF_b, negF_i, iteF2_t, iteF2_f, dNil_ap, dCons_ap, seqF0, seqF1, seqF2, seqF3, seqF4, seqF5, dTup_ap, dLst_ap, dCall_ap, l2_add, l2_sub, l2_lt, l2_le, l2_gt, l2_ge, l2_eq, l2_ne, l2_tup20, l2_tup21, l1_abs, l1_int, l1_lenT, l1_lenL, l1_tupL, l1_tupT, l1_listS, l1_isI, l1_isB, l1_isT, dGcd_ap, gcdF_i, flo_ret, flo_nx, flo_exc, dSetN_ap, hasN0, chg0, setAt1, setAt2, setAt3, fin_some, rix0, rix1, rix2, rix3, pow1018, Nat.reduceSub, List.replicate, List.replicate_zero, bnd_ok, bnd_exc, List.getElem?_cons_zero, List.getElem?_cons_succ, List.set_cons_succ, List.set_cons_zero, Option.map_some, if_true, decide_true, decide_false, Bool.not_true, Bool.not_false]
    rw [l2_div (gz_pos h) hg]
    simp -implicitDefEqProofs only [sqF_nx, sqF_ret, sqF_brk, sqF_ct, sqF_exc, sbF_ok, sbF_exc, ifF_t, ifF_f, dSeq_ap, dSkip_ap, dAsg_ap, dAsgO_ap, dEx_ap, dRet_ap, dRetN_ap, dIfS_ap, dBrk_ap, dCt_ap, dRaise_ap, dFz_ap, dFor_ap, forR_ok, forR_exc, forD_nil, dK_ap, cellV_fz, cellB_fz, cellB_ow, dVar_ap, dBor_ap, dOp2_ap, dOp1_ap, dAnd_ap, dOr_ap, dNot_ap, dNeg_ap, dIf_ap, andF_t, andF_f, orF_t, orF_f, notF_b, negF_i, iteF2_t, iteF2_f, dNil_ap, dCons_ap, seqF0, seqF1, seqF2, seqF3, seqF4, seqF5, dTup_ap, dLst_ap, dCall_ap, l2_add, l2_sub, l2_lt, l2_le, l2_gt, l2_ge, l2_eq, l2_ne, l2_tup20, l2_tup21, l1_abs, l1_int, l1_lenT, l1_lenL, l1_tupL, l1_tupT, l1_listS, l1_isI, l1_isB, l1_isT, dGcd_ap, gcdF_i, flo_ret, flo_nx, flo_exc, dSetN_ap, hasN0, chg0, setAt1, setAt2, setAt3, fin_some, rix0, rix1, rix2, rix3, pow1018, Nat.reduceSub, List.replicate, List.replicate_zero, bnd_ok, bnd_exc, List.getElem?_cons_zero, List.getElem?_cons_succ, List.set_cons_succ, List.set_cons_zero, Option.map_some, if_true, decide_true, decide_false, Bool.not_true, Bool.not_false]
    unfold fr frN frD
    rw [if_neg hn, if_neg hn]
/-- the greatest common divisor by remainders -/
noncomputable def gcdD : Dns := (dSeq (dWh (dOp2 gNe (dBor 1) (dK (.int 0))) (dSeq (dPar 0 1 (dCons (dVar 1) (dCons (dOp2 gMod (dOp1 gInt (dBor 0)) (dBor 1)) dNil))) dSkip)) (dSeq (dRet (dOp1 gAbs (dBor 0))) dSkip))
theorem dPar_ap {i j : Nat} {ms : Dna} {ρ : Env} {S S' : Store} {v w : PV} (h : ms ρ S = .ok [v, w] S') : dPar i j ms ρ S = .nx ((ρ.set i (.fz v)).set j (.fz w)) S' := by unfold dPar; rw [h]
theorem gcd_loop {S : Store} : ∀ (b a : Nat), ∃ n, whN (dOp2 gNe (dBor 1) (dK (.int 0))) (dSeq (dPar 0 1 (dCons (dVar 1) (dCons (dOp2 gMod (dOp1 gInt (dBor 0)) (dBor 1)) dNil))) dSkip) n [.fz (.int a), .fz (.int b)] S = .nx [.fz (.int (Nat.gcd a b)), .fz (.int 0)] S := fun b => by
  induction b using Nat.strongRecOn with
  | _ b ih =>
    intro a
    by_cases hb : b = 0
    · subst hb
      refine ⟨1, ?_⟩
      unfold whN
      simp -implicitDefEqProofs only [sqF_nx, sqF_ret, sqF_brk, sqF_ct, sqF_exc, sbF_ok, sbF_exc, ifF_t, ifF_f, dSeq_ap, dSkip_ap, dAsg_ap, dAsgO_ap, dEx_ap, dRet_ap, dRetN_ap, dIfS_ap, dBrk_ap, dCt_ap, dRaise_ap, dFz_ap, dFor_ap, forR_ok, forR_exc, forD_nil, dK_ap, cellV_fz, cellB_fz, cellB_ow, dVar_ap, dBor_ap, dOp2_ap, dOp1_ap, dAnd_ap, dOr_ap, dNot_ap, dNeg_ap, dIf_ap, andF_t, andF_f, orF_t, orF_f, notF_b, negF_i, iteF2_t, iteF2_f, dNil_ap, dCons_ap, seqF0, seqF1, seqF2, seqF3, seqF4, seqF5, dTup_ap, dLst_ap, dCall_ap, l2_add, l2_sub, l2_lt, l2_le, l2_gt, l2_ge, l2_eq, l2_ne, l2_tup20, l2_tup21, l1_abs, l1_int, l1_lenT, l1_lenL, l1_tupL, l1_tupT, l1_listS, l1_isI, l1_isB, l1_isT, dGcd_ap, gcdF_i, flo_ret, flo_nx, flo_exc, dSetN_ap, hasN0, chg0, setAt1, setAt2, setAt3, fin_some, rix0, rix1, rix2, rix3, pow1018, Nat.reduceSub, List.replicate, List.replicate_zero, bnd_ok, bnd_exc, List.getElem?_cons_zero, List.getElem?_cons_succ, List.set_cons_succ, List.set_cons_zero, Option.map_some, if_true, decide_true, decide_false, Bool.not_true, Bool.not_false]
      rw [Nat.gcd_zero_right]; rfl
    · obtain ⟨n, e⟩ := ih (a % b) (Nat.mod_lt a (by omega)) b
      refine ⟨n + 1, ?_⟩
      unfold whN
      have hb' : ¬ ((b : Int) = 0) := by omega
      have e1 : (dCons (dVar 1) (dCons (dOp2 gMod (dOp1 gInt (dBor 0)) (dBor 1)) dNil)) [.fz (.int a), .fz (.int b)] S = .ok [.int b, .int ((a % b : Nat) : Int)] S := by
        simp -implicitDefEqProofs only [sqF_nx, sqF_ret, sqF_brk, sqF_ct, sqF_exc, sbF_ok, sbF_exc, ifF_t, ifF_f, dSeq_ap, dSkip_ap, dAsg_ap, dAsgO_ap, dEx_ap, dRet_ap, dRetN_ap, dIfS_ap, dBrk_ap, dCt_ap, dRaise_ap, dFz_ap, dFor_ap, forR_ok, forR_exc, forD_nil, dK_ap, cellV_fz, cellB_fz, cellB_ow, dVar_ap, dBor_ap, dOp2_ap, dOp1_ap, dAnd_ap, dOr_ap, dNot_ap, dNeg_ap, dIf_ap, andF_t, andF_f, orF_t, orF_f, notF_b, negF_i, iteF2_t, iteF2_f, dNil_ap, dCons_ap, seqF0, seqF1, seqF2, seqF3, seqF4, seqF5, dTup_ap, dLst_ap, dCall_ap, l2_add, l2_sub, l2_lt, l2_le, l2_gt, l2_ge, l2_eq, l2_ne, l2_tup20, l2_tup21, l1_abs, l1_int, l1_lenT, l1_lenL, l1_tupL, l1_tupT, l1_listS, l1_isI, l1_isB, l1_isT, dGcd_ap, gcdF_i, flo_ret, flo_nx, flo_exc, dSetN_ap, hasN0, chg0, setAt1, setAt2, setAt3, fin_some, rix0, rix1, rix2, rix3, pow1018, Nat.reduceSub, List.replicate, List.replicate_zero, bnd_ok, bnd_exc, List.getElem?_cons_zero, List.getElem?_cons_succ, List.set_cons_succ, List.set_cons_zero, Option.map_some, if_true, decide_true, decide_false, Bool.not_true, Bool.not_false]
        rw [l2_mod (by omega)]
        simp -implicitDefEqProofs only [sqF_nx, sqF_ret, sqF_brk, sqF_ct, sqF_exc, sbF_ok, sbF_exc, ifF_t, ifF_f, dSeq_ap, dSkip_ap, dAsg_ap, dAsgO_ap, dEx_ap, dRet_ap, dRetN_ap, dIfS_ap, dBrk_ap, dCt_ap, dRaise_ap, dFz_ap, dFor_ap, forR_ok, forR_exc, forD_nil, dK_ap, cellV_fz, cellB_fz, cellB_ow, dVar_ap, dBor_ap, dOp2_ap, dOp1_ap, dAnd_ap, dOr_ap, dNot_ap, dNeg_ap, dIf_ap, andF_t, andF_f, orF_t, orF_f, notF_b, negF_i, iteF2_t, iteF2_f, dNil_ap, dCons_ap, seqF0, seqF1, seqF2, seqF3, seqF4, seqF5, dTup_ap, dLst_ap, dCall_ap, l2_add, l2_sub, l2_lt, l2_le, l2_gt, l2_ge, l2_eq, l2_ne, l2_tup20, l2_tup21, l1_abs, l1_int, l1_lenT, l1_lenL, l1_tupL, l1_tupT, l1_listS, l1_isI, l1_isB, l1_isT, dGcd_ap, gcdF_i, flo_ret, flo_nx, flo_exc, dSetN_ap, hasN0, chg0, setAt1, setAt2, setAt3, fin_some, rix0, rix1, rix2, rix3, pow1018, Nat.reduceSub, List.replicate, List.replicate_zero, bnd_ok, bnd_exc, List.getElem?_cons_zero, List.getElem?_cons_succ, List.set_cons_succ, List.set_cons_zero, Option.map_some, if_true, decide_true, decide_false, Bool.not_true, Bool.not_false]
        rw [Int.natCast_emod]
      simp -implicitDefEqProofs only [sqF_nx, sqF_ret, sqF_brk, sqF_ct, sqF_exc, sbF_ok, sbF_exc, ifF_t, ifF_f, dSeq_ap, dSkip_ap, dAsg_ap, dAsgO_ap, dEx_ap, dRet_ap, dRetN_ap, dIfS_ap, dBrk_ap, dCt_ap, dRaise_ap, dFz_ap, dFor_ap, forR_ok, forR_exc, forD_nil, dK_ap, cellV_fz, cellB_fz, cellB_ow, dVar_ap, dBor_ap, dOp2_ap, dOp1_ap, dAnd_ap, dOr_ap, dNot_ap, dNeg_ap, dIf_ap, andF_t, andF_f, orF_t, orF_f, notF_b, negF_i, iteF2_t, iteF2_f, dNil_ap, dCons_ap, seqF0, seqF1, seqF2, seqF3, seqF4, seqF5, dTup_ap, dLst_ap, dCall_ap, l2_add, l2_sub, l2_lt, l2_le, l2_gt, l2_ge, l2_eq, l2_ne, l2_tup20, l2_tup21, l1_abs, l1_int, l1_lenT, l1_lenL, l1_tupL, l1_tupT, l1_listS, l1_isI, l1_isB, l1_isT, dGcd_ap, gcdF_i, flo_ret, flo_nx, flo_exc, dSetN_ap, hasN0, chg0, setAt1, setAt2, setAt3, fin_some, rix0, rix1, rix2, rix3, pow1018, Nat.reduceSub, List.replicate, List.replicate_zero, bnd_ok, bnd_exc, List.getElem?_cons_zero, List.getElem?_cons_succ, List.set_cons_succ, List.set_cons_zero, Option.map_some, if_true, decide_true, decide_false, Bool.not_true, Bool.not_false, hb']
      rw [dPar_ap e1]
      simp -implicitDefEqProofs only [sqF_nx, sqF_ret, sqF_brk, sqF_ct, sqF_exc, sbF_ok, sbF_exc, ifF_t, ifF_f, dSeq_ap, dSkip_ap, dAsg_ap, dAsgO_ap, dEx_ap, dRet_ap, dRetN_ap, dIfS_ap, dBrk_ap, dCt_ap, dRaise_ap, dFz_ap, dFor_ap, forR_ok, forR_exc, forD_nil, dK_ap, cellV_fz, cellB_fz, cellB_ow, dVar_ap, dBor_ap, dOp2_ap, dOp1_ap, dAnd_ap, dOr_ap, dNot_ap, dNeg_ap, dIf_ap, andF_t, andF_f, orF_t, orF_f, notF_b, negF_i, iteF2_t, iteF2_f, dNil_ap, dCons_ap, seqF0, seqF1, seqF2, seqF3, seqF4, seqF5, dTup_ap, dLst_ap, dCall_ap, l2_add, l2_sub, l2_lt, l2_le, l2_gt, l2_ge, l2_eq, l2_ne, l2_tup20, l2_tup21, l1_abs, l1_int, l1_lenT, l1_lenL, l1_tupL, l1_tupT, l1_listS, l1_isI, l1_isB, l1_isT, dGcd_ap, gcdF_i, flo_ret, flo_nx, flo_exc, dSetN_ap, hasN0, chg0, setAt1, setAt2, setAt3, fin_some, rix0, rix1, rix2, rix3, pow1018, Nat.reduceSub, List.replicate, List.replicate_zero, bnd_ok, bnd_exc, List.getElem?_cons_zero, List.getElem?_cons_succ, List.set_cons_succ, List.set_cons_zero, Option.map_some, if_true, decide_true, decide_false, Bool.not_true, Bool.not_false]
      rw [e, Nat.gcd_comm b (a % b), ← Nat.gcd_rec b a, Nat.gcd_comm]
theorem gcd_ok {S : Store} {a b : Nat} : dDef 2 2 gcdD [.int a, .int b] S = .ok (.int (Nat.gcd a b)) S := by
  rw [def2]; unfold gcdD
  obtain ⟨n, e⟩ := gcd_loop (S := S) b a
  have e2 : dWh (dOp2 gNe (dBor 1) (dK (.int 0))) (dSeq (dPar 0 1 (dCons (dVar 1) (dCons (dOp2 gMod (dOp1 gInt (dBor 0)) (dBor 1)) dNil))) dSkip) [.fz (.int a), .fz (.int b)] S = .nx [.fz (.int (Nat.gcd a b)), .fz (.int 0)] S := by
    rw [dWh_of (n := n) _ _ (by rw [e]; exact fun z => nomatch z), e]
  simp -implicitDefEqProofs only [sqF_nx, sqF_ret, sqF_brk, sqF_ct, sqF_exc, sbF_ok, sbF_exc, ifF_t, ifF_f, dSeq_ap, dSkip_ap, dAsg_ap, dAsgO_ap, dEx_ap, dRet_ap, dRetN_ap, dIfS_ap, dBrk_ap, dCt_ap, dRaise_ap, dFz_ap, dFor_ap, forR_ok, forR_exc, forD_nil, dK_ap, cellV_fz, cellB_fz, cellB_ow, dVar_ap, dBor_ap, dOp2_ap, dOp1_ap, dAnd_ap, dOr_ap, dNot_ap, dNeg_ap, dIf_ap, andF_t, andF_f, orF_t, orF_f, notF_b, negF_i, iteF2_t, iteF2_f, dNil_ap, dCons_ap, seqF0, seqF1, seqF2, seqF3, seqF4, seqF5, dTup_ap, dLst_ap, dCall_ap, l2_add, l2_sub, l2_lt, l2_le, l2_gt, l2_ge, l2_eq, l2_ne, l2_tup20, l2_tup21, l1_abs, l1_int, l1_lenT, l1_lenL, l1_tupL, l1_tupT, l1_listS, l1_isI, l1_isB, l1_isT, dGcd_ap, gcdF_i, flo_ret, flo_nx, flo_exc, dSetN_ap, hasN0, chg0, setAt1, setAt2, setAt3, fin_some, rix0, rix1, rix2, rix3, pow1018, Nat.reduceSub, List.replicate, List.replicate_zero, bnd_ok, bnd_exc, List.getElem?_cons_zero, List.getElem?_cons_succ, List.set_cons_succ, List.set_cons_zero, Option.map_some, if_true, decide_true, decide_false, Bool.not_true, Bool.not_false]
  rw [e2]
  simp -implicitDefEqProofs only [sqF_nx, sqF_ret, sqF_brk, sqF_ct, sqF_exc, sbF_ok, sbF_exc, ifF_t, ifF_f, dSeq_ap, dSkip_ap, dAsg_ap, dAsgO_ap, dEx_ap, dRet_ap, dRetN_ap, dIfS_ap, dBrk_ap, dCt_ap, dRaise_ap, dFz_ap, dFor_ap, forR_ok, forR_exc, forD_nil, dK_ap, cellV_fz, cellB_fz, cellB_ow, dVar_ap, dBor_ap, dOp2_ap, dOp1_ap, dAnd_ap, dOr_ap, dNot_ap, dNeg_ap, dIf_ap, andF_t, andF_f, orF_t, orF_f, notF_b, negF_i, iteF2_t, iteF2_f, dNil_ap, dCons_ap, seqF0, seqF1, seqF2, seqF3, seqF4, seqF5, dTup_ap, dLst_ap, dCall_ap, l2_add, l2_sub, l2_lt, l2_le, l2_gt, l2_ge, l2_eq, l2_ne, l2_tup20, l2_tup21, l1_abs, l1_int, l1_lenT, l1_lenL, l1_tupL, l1_tupT, l1_listS, l1_isI, l1_isB, l1_isT, dGcd_ap, gcdF_i, flo_ret, flo_nx, flo_exc, dSetN_ap, hasN0, chg0, setAt1, setAt2, setAt3, fin_some, rix0, rix1, rix2, rix3, pow1018, Nat.reduceSub, List.replicate, List.replicate_zero, bnd_ok, bnd_exc, List.getElem?_cons_zero, List.getElem?_cons_succ, List.set_cons_succ, List.set_cons_zero, Option.map_some, if_true, decide_true, decide_false, Bool.not_true, Bool.not_false]
  rw [if_neg (by omega)]
end Py
/-! More steps; the fractions' defs by promises. -/
namespace Py
open L2

section
variable {ρ ρ1 ρ2 ρ' : Env} {S S' S2 : Store} {t : Dt} {s b : Dns} {v : PV} {vs xs : List PV} {i : Nat} {me : Dn} {i? : Option Nat} {kn cl : Err → Bool} {h : Err → Dns} {er : Err}
theorem forD_nx (ht : t v ρ = some ρ1) (hb : s ρ1 S = .nx ρ2 S2) : forD t s (v :: vs) ρ S = forD t s vs ρ2 S2 := by
  show (match t v ρ with
    | none => Flo.bad
    | some ρ1 => match s ρ1 S with
      | .nx ρ2 S2 => forD t s vs ρ2 S2
      | .ct ρ2 S2 => forD t s vs ρ2 S2
      | .brk ρ2 S2 => .nx ρ2 S2
      | .ret v S2 => .ret v S2
      | .exc e ρ2 S2 => .exc e ρ2 S2
      | .bad => .bad) = _
  rw [ht]
  show (match s ρ1 S with
      | .nx ρ2 S2 => forD t s vs ρ2 S2
      | .ct ρ2 S2 => forD t s vs ρ2 S2
      | .brk ρ2 S2 => .nx ρ2 S2
      | .ret v S2 => .ret v S2
      | .exc e ρ2 S2 => .exc e ρ2 S2
      | .bad => .bad) = _
  rw [hb]
theorem app_ow (hρ : ρ[i]? = some (.ow (.lst xs))) (hx : xs.length < sz) (hm : me ρ S = .ok v S') : dApp' i me ρ S = .nx (ρ.set i (.ow (.lst (xs ++ [v])))) S' := by
  have h1 : hasL i ρ S = true := by unfold hasL; rw [hρ]
  have h2 : chg i (pushAt v) ρ S' = some (ρ.set i (.ow (.lst (xs ++ [v]))), S') := by
    unfold chg; rw [hρ]
    show (pushAt v xs).map _ = _
    unfold pushAt; rw [if_pos hx]; rfl
  unfold dApp'
  rw [if_pos h1, sB_ap, hm]
  show fin (chg i (pushAt v) ρ S') = _
  rw [h2]; rfl
theorem try_exc (hb : b ρ S = .exc er ρ1 S') (hk : kn er = true) (hc : cl er = true) (hn : noEx ρ1 = true) : dTry b i? kn cl h ρ S = leaveX i? (h er (enterX i? ρ1) S') := by
  unfold dTry; rw [hb]
  show (if kn er = true then (if cl er = true then (if noEx ρ1 = true then leaveX i? (h er (enterX i? ρ1) S') else .bad) else .exc er ρ1 S') else .bad) = _
  rw [if_pos hk, if_pos hc, if_pos hn]
theorem try_nx (hb : b ρ S = .nx ρ1 S') : dTry b i? kn cl h ρ S = .nx ρ1 S' := by unfold dTry; rw [hb]
theorem leaveX_ret : leaveX i? (.ret v S) = .ret v S := rfl
theorem isE_ap {c : Bool} (hρ : ρ[i]? = some .ex) : dIsE i c ρ S = .ok (.bl c) S := by unfold dIsE; rw [hρ]
end
theorem l2_eqF {a b c d : Int} {S : Store} : lift2 gEq (fr a b) (fr c d) S = .ok (.bl (decide (a = c) && decide (b = d))) S := by
  have e : pEq (fr a b) (fr c d) = some (decide (a = c) && decide (b = d)) := by
    unfold fr
    simp only [pEq, shp, shps, dep, deps, peqv, peqvs, Bool.and_true, Bool.true_and]
    rfl
  show (match (pEq (fr a b) (fr c d)).map PV.bl with | some z => Res.ok z S | none => .bad) = _
  rw [e]; rfl
theorem absI (x : Int) : (if x < 0 then -x else x) = (x.natAbs : Int) := by omega
/-! ### bounds -/
def lt2 (x : Int) (n : Nat) : Prop := x.natAbs < 2 ^ n
theorem lt2.ok {x : Int} {n : Nat} (h : lt2 x n) (hn : n ≤ 8000) : okI x = true := okI_of h hn
theorem lt2.mono {x : Int} {n m : Nat} (h : lt2 x n) (hn : n ≤ m) : lt2 x m := Nat.lt_of_lt_of_le h (Nat.pow_le_pow_right (by decide) hn)
theorem lt2.mul {x y : Int} {n m : Nat} (h : lt2 x n) (h' : lt2 y m) : lt2 (x * y) (n + m) := by
  unfold lt2 at *
  rw [Int.natAbs_mul, Nat.pow_add]
  exact Nat.mul_lt_mul_of_lt_of_le h (Nat.le_of_lt h') (Nat.two_pow_pos m)
theorem lt2.add {x y : Int} {n : Nat} (h : lt2 x n) (h' : lt2 y n) : lt2 (x + y) (n + 1) := by
  unfold lt2 at *
  have := Int.natAbs_add_le x y
  rw [Nat.pow_succ]; omega
theorem lt2.sub {x y : Int} {n : Nat} (h : lt2 x n) (h' : lt2 y n) : lt2 (x - y) (n + 1) := by
  unfold lt2 at *
  have := Int.natAbs_sub_le x y
  rw [Nat.pow_succ]; omega
theorem lt2.frN {p q : Int} {n : Nat} (h : lt2 p n) : lt2 (frN p q) n := Nat.lt_of_le_of_lt (frN_le p q) h
theorem lt2.frD {p q : Int} {n : Nat} (h : lt2 q n) : lt2 (frD p q) n := Nat.lt_of_le_of_lt (frD_le p q) h
/-! ### promises -/
def FracOk (f : List PV → Store → Res PV) : Prop := ∀ (p q : Int) S, q ≠ 0 → lt2 q 8000 → f [.int p, .int q] S = .ok (fr (frN p q) (frD p q)) S
def Frac0 (f : List PV → Store → Res PV) : Prop := ∀ (p : Int) S, f [.int p, .int 0] S = .exc .zeroDen S
def GcdOk (f : List PV → Store → Res PV) : Prop := ∀ (a b : Nat) S, f [.int a, .int b] S = .ok (.int (Nat.gcd a b)) S
def IntOk (f : List PV → Store → Res PV) : Prop := ∀ (i : Int) S, f [.int i] S = .ok (.bl true) S
def IsOk (f : List PV → Store → Res PV) : Prop := ∀ (a b t u : Int) S, 0 < b → a * u = t * b → Nat.gcd a.natAbs b.natAbs = 1 → okI a = true → okI b = true → okI t = true → okI u = true → f [fr a b, .int t, .int u] S = .ok (.bl true) S
def addN (a b c d : Int) : Int := a * d + c * b
def PlusOk (f : List PV → Store → Res PV) : Prop := ∀ (a b c d : Int) S, 0 < b → 0 < d → lt2 a 4000 → lt2 b 3000 → lt2 c 4000 → lt2 d 3000 → f [fr a b, fr c d] S = .ok (fr (frN (addN a b c d) (b * d)) (frD (addN a b c d) (b * d))) S
def intD : Dns := (dSeq (dRet (dAnd (dOp1 (gIs "int") (dBor 0)) (dNot (dOp1 (gIs "bool") (dBor 0))))) dSkip)
theorem int_ok : IntOk (dDef 1 1 intD) := fun i S => by
  rw [def1]; unfold intD
  simp -implicitDefEqProofs only [sqF_nx, sqF_ret, sqF_brk, sqF_ct, sqF_exc, sbF_ok, sbF_exc, ifF_t, ifF_f, dSeq_ap, dSkip_ap, dAsg_ap, dAsgO_ap, dEx_ap, dRet_ap, dRetN_ap, dIfS_ap, dBrk_ap, dCt_ap, dRaise_ap, dFz_ap, dFor_ap, forR_ok, forR_exc, forD_nil, dK_ap, cellV_fz, cellB_fz, cellB_ow, dVar_ap, dBor_ap, dOp2_ap, dOp1_ap, dAnd_ap, dOr_ap, dNot_ap, dNeg_ap, dIf_ap, andF_t, andF_f, orF_t, orF_f, notF_b, negF_i, iteF2_t, iteF2_f, dNil_ap, dCons_ap, seqF0, seqF1, seqF2, seqF3, seqF4, seqF5, dTup_ap, dLst_ap, dCall_ap, l2_add, l2_sub, l2_lt, l2_le, l2_gt, l2_ge, l2_eq, l2_ne, l2_tup20, l2_tup21, l1_abs, l1_int, l1_lenT, l1_lenL, l1_tupL, l1_tupT, l1_listS, l1_isI, l1_isB, l1_isT, dGcd_ap, gcdF_i, flo_ret, flo_nx, flo_exc, dSetN_ap, hasN0, chg0, setAt1, setAt2, setAt3, fin_some, rix0, rix1, rix2, rix3, pow1018, Nat.reduceSub, List.replicate, List.replicate_zero, bnd_ok, bnd_exc, List.getElem?_cons_zero, List.getElem?_cons_succ, List.set_cons_succ, List.set_cons_zero, Option.map_some, if_true, decide_true, decide_false, Bool.not_true, Bool.not_false]
def lawfD (g : List PV → Store → Res PV) : Dns := (dSeq (dIfS (dOp2 gLt (dBor 1) (dK (.int 0))) (dSeq (dAsg 0 (dOp2 gSub (dK (.int 0)) (dBor 0))) (dSeq (dAsg 1 (dOp2 gSub (dK (.int 0)) (dBor 1))) dSkip)) dSkip) (dSeq (dAsg 2 (dCall g (dCons (dOp1 gAbs (dBor 0)) (dCons (dVar 1) dNil)))) (dSeq (dRet (dTup (dCons (dOp2 gDiv (dBor 0) (dBor 2)) (dCons (dOp2 gDiv (dBor 1) (dBor 2)) dNil)))) dSkip)))
theorem lawf_ok {g : List PV → Store → Res PV} (hg : GcdOk g) : FracOk (dDef 3 2 (lawfD g)) := fun p q S h hq => by
  rw [def2]; unfold lawfD
  have ho : okI (gz p q) = true := by
    have := gz_le (p := p) h
    refine okI_of (b := 8000) ?_ (Nat.le_refl _)
    have := gz_pos (p := p) h
    unfold lt2 at hq
    omega
  by_cases hn : q < 0
  · have e1 : (0 - q : Int) = (q.natAbs : Int) := by omega
    have e2 : (0 - p).natAbs = p.natAbs := by omega
    simp -implicitDefEqProofs only [sqF_nx, sqF_ret, sqF_brk, sqF_ct, sqF_exc, sbF_ok, sbF_exc, ifF_t, ifF_f, dSeq_ap, dSkip_ap, dAsg_ap, dAsgO_ap, dEx_ap, dRet_ap, dRetN_ap, dIfS_ap, dBrk_ap, dCt_ap, dRaise_ap, dFz_ap, dFor_ap, forR_ok, forR_exc, forD_nil, dK_ap, cellV_fz, cellB_fz, cellB_ow, dVar_ap, dBor_ap, dOp2_ap, dOp1_ap, dAnd_ap, dOr_ap, dNot_ap, dNeg_ap, dIf_ap, andF_t, andF_f, orF_t, orF_f, notF_b, negF_i, iteF2_t, iteF2_f, dNil_ap, dCons_ap, seqF0, seqF1, seqF2, seqF3, seqF4, seqF5, dTup_ap, dLst_ap, dCall_ap, l2_add, l2_sub, l2_lt, l2_le, l2_gt, l2_ge, l2_eq, l2_ne, l2_tup20, l2_tup21, l1_abs, l1_int, l1_lenT, l1_lenL, l1_tupL, l1_tupT, l1_listS, l1_isI, l1_isB, l1_isT, dGcd_ap, gcdF_i, flo_ret, flo_nx, flo_exc, dSetN_ap, hasN0, chg0, setAt1, setAt2, setAt3, fin_some, rix0, rix1, rix2, rix3, pow1018, Nat.reduceSub, List.replicate, List.replicate_zero, bnd_ok, bnd_exc, List.getElem?_cons_zero, List.getElem?_cons_succ, List.set_cons_succ, List.set_cons_zero, Option.map_some, if_true, decide_true, decide_false, Bool.not_true, Bool.not_false, hn, absI, e1, e2]
    rw [hg]
    simp -implicitDefEqProofs only [sqF_nx, sqF_ret, sqF_brk, sqF_ct, sqF_exc, sbF_ok, sbF_exc, ifF_t, ifF_f, dSeq_ap, dSkip_ap, dAsg_ap, dAsgO_ap, dEx_ap, dRet_ap, dRetN_ap, dIfS_ap, dBrk_ap, dCt_ap, dRaise_ap, dFz_ap, dFor_ap, forR_ok, forR_exc, forD_nil, dK_ap, cellV_fz, cellB_fz, cellB_ow, dVar_ap, dBor_ap, dOp2_ap, dOp1_ap, dAnd_ap, dOr_ap, dNot_ap, dNeg_ap, dIf_ap, andF_t, andF_f, orF_t, orF_f, notF_b, negF_i, iteF2_t, iteF2_f, dNil_ap, dCons_ap, seqF0, seqF1, seqF2, seqF3, seqF4, seqF5, dTup_ap, dLst_ap, dCall_ap, l2_add, l2_sub, l2_lt, l2_le, l2_gt, l2_ge, l2_eq, l2_ne, l2_tup20, l2_tup21, l1_abs, l1_int, l1_lenT, l1_lenL, l1_tupL, l1_tupT, l1_listS, l1_isI, l1_isB, l1_isT, dGcd_ap, gcdF_i, flo_ret, flo_nx, flo_exc, dSetN_ap, hasN0, chg0, setAt1, setAt2, setAt3, fin_some, rix0, rix1, rix2, rix3, pow1018, Nat.reduceSub, List.replicate, List.replicate_zero, bnd_ok, bnd_exc, List.getElem?_cons_zero, List.getElem?_cons_succ, List.set_cons_succ, List.set_cons_zero, Option.map_some, if_true, decide_true, decide_false, Bool.not_true, Bool.not_false]
    have egz : ((Nat.gcd p.natAbs q.natAbs : Nat) : Int) = gz p q := rfl
    rw [egz, l2_div (gz_pos h) ho]
    simp -implicitDefEqProofs only [sqF_nx, sqF_ret, sqF_brk, sqF_ct, sqF_exc, sbF_ok, sbF_exc, ifF_t, ifF_f, dSeq_ap, dSkip_ap, dAsg_ap, dAsgO_ap, dEx_ap, dRet_ap, dRetN_ap, dIfS_ap, dBrk_ap, dCt_ap, dRaise_ap, dFz_ap, dFor_ap, forR_ok, forR_exc, forD_nil, dK_ap, cellV_fz, cellB_fz, cellB_ow, dVar_ap, dBor_ap, dOp2_ap, dOp1_ap, dAnd_ap, dOr_ap, dNot_ap, dNeg_ap, dIf_ap, andF_t, andF_f, orF_t, orF_f, notF_b, negF_i, iteF2_t, iteF2_f, dNil_ap, dCons_ap, seqF0, seqF1, seqF2, seqF3, seqF4, seqF5, dTup_ap, dLst_ap, dCall_ap, l2_add, l2_sub, l2_lt, l2_le, l2_gt, l2_ge, l2_eq, l2_ne, l2_tup20, l2_tup21, l1_abs, l1_int, l1_lenT, l1_lenL, l1_tupL, l1_tupT, l1_listS, l1_isI, l1_isB, l1_isT, dGcd_ap, gcdF_i, flo_ret, flo_nx, flo_exc, dSetN_ap, hasN0, chg0, setAt1, setAt2, setAt3, fin_some, rix0, rix1, rix2, rix3, pow1018, Nat.reduceSub, List.replicate, List.replicate_zero, bnd_ok, bnd_exc, List.getElem?_cons_zero, List.getElem?_cons_succ, List.set_cons_succ, List.set_cons_zero, Option.map_some, if_true, decide_true, decide_false, Bool.not_true, Bool.not_false]
    rw [l2_div (gz_pos h) ho]
    simp -implicitDefEqProofs only [sqF_nx, sqF_ret, sqF_brk, sqF_ct, sqF_exc, sbF_ok, sbF_exc, ifF_t, ifF_f, dSeq_ap, dSkip_ap, dAsg_ap, dAsgO_ap, dEx_ap, dRet_ap, dRetN_ap, dIfS_ap, dBrk_ap, dCt_ap, dRaise_ap, dFz_ap, dFor_ap, forR_ok, forR_exc, forD_nil, dK_ap, cellV_fz, cellB_fz, cellB_ow, dVar_ap, dBor_ap, dOp2_ap, dOp1_ap, dAnd_ap, dOr_ap, dNot_ap, dNeg_ap, dIf_ap, andF_t, andF_f, orF_t, orF_f, notF_b, negF_i, iteF2_t, iteF2_f, dNil_ap, dCons_ap, seqF0, seqF1, seqF2, seqF3, seqF4, seqF5, dTup_ap, dLst_ap, dCall_ap, l2_add, l2_sub, l2_lt, l2_le, l2_gt, l2_ge, l2_eq, l2_ne, l2_tup20, l2_tup21, l1_abs, l1_int, l1_lenT, l1_lenL, l1_tupL, l1_tupT, l1_listS, l1_isI, l1_isB, l1_isT, dGcd_ap, gcdF_i, flo_ret, flo_nx, flo_exc, dSetN_ap, hasN0, chg0, setAt1, setAt2, setAt3, fin_some, rix0, rix1, rix2, rix3, pow1018, Nat.reduceSub, List.replicate, List.replicate_zero, bnd_ok, bnd_exc, List.getElem?_cons_zero, List.getElem?_cons_succ, List.set_cons_succ, List.set_cons_zero, Option.map_some, if_true, decide_true, decide_false, Bool.not_true, Bool.not_false]
    unfold fr frN frD
    rw [if_pos hn, if_pos hn, ← e1, Int.zero_sub, Int.zero_sub]
  · have e1 : q = (q.natAbs : Int) := by omega
    simp -implicitDefEqProofs only [sqF_nx, sqF_ret, sqF_brk, sqF_ct, sqF_exc, sbF_ok, sbF_exc, ifF_t, ifF_f, dSeq_ap, dSkip_ap, dAsg_ap, dAsgO_ap, dEx_ap, dRet_ap, dRetN_ap, dIfS_ap, dBrk_ap, dCt_ap, dRaise_ap, dFz_ap, dFor_ap, forR_ok, forR_exc, forD_nil, dK_ap, cellV_fz, cellB_fz, cellB_ow, dVar_ap, dBor_ap, dOp2_ap, dOp1_ap, dAnd_ap, dOr_ap, dNot_ap, dNeg_ap, dIf_ap, andF_t, andF_f, orF_t, orF_f, notF_b, negF_i, iteF2_t, iteF2_f, dNil_ap, dCons_ap, seqF0, seqF1, seqF2, seqF3, seqF4, seqF5, dTup_ap, dLst_ap, dCall_ap, l2_add, l2_sub, l2_lt, l2_le, l2_gt, l2_ge, l2_eq, l2_ne, l2_tup20, l2_tup21, l1_abs, l1_int, l1_lenT, l1_lenL, l1_tupL, l1_tupT, l1_listS, l1_isI, l1_isB, l1_isT, dGcd_ap, gcdF_i, flo_ret, flo_nx, flo_exc, dSetN_ap, hasN0, chg0, setAt1, setAt2, setAt3, fin_some, rix0, rix1, rix2, rix3, pow1018, Nat.reduceSub, List.replicate, List.replicate_zero, bnd_ok, bnd_exc, List.getElem?_cons_zero, List.getElem?_cons_succ, List.set_cons_succ, List.set_cons_zero, Option.map_some, if_true, decide_true, decide_false, Bool.not_true, Bool.not_false, hn, absI]
    have e3 : g [.int (p.natAbs : Int), .int q] S = .ok (.int (gz p q)) S := by
      rw [e1, hg]
      unfold gz
      rw [Int.natAbs_natCast]
    rw [e3]
    simp -implicitDefEqProofs only [sqF_nx, sqF_ret, sqF_brk, sqF_ct, sqF_exc, sbF_ok, sbF_exc, ifF_t, ifF_f, dSeq_ap, dSkip_ap, dAsg_ap, dAsgO_ap, dEx_ap, dRet_ap, dRetN_ap, dIfS_ap, dBrk_ap, dCt_ap, dRaise_ap, dFz_ap, dFor_ap, forR_ok, forR_exc, forD_nil, dK_ap, cellV_fz, cellB_fz, cellB_ow, dVar_ap, dBor_ap, dOp2_ap, dOp1_ap, dAnd_ap, dOr_ap, dNot_ap, dNeg_ap, dIf_ap, andF_t, andF_f, orF_t, orF_f, notF_b, negF_i, iteF2_t, iteF2_f, dNil_ap, dCons_ap, seqF0, seqF1, seqF2, seqF3, seqF4, seqF5, dTup_ap, dLst_ap, dCall_ap, l2_add, l2_sub, l2_lt, l2_le, l2_gt, l2_ge, l2_eq, l2_ne, l2_tup20, l2_tup21, l1_abs, l1_int, l1_lenT, l1_lenL, l1_tupL, l1_tupT, l1_listS, l1_isI, l1_isB, l1_isT, dGcd_ap, gcdF_i, flo_ret, flo_nx, flo_exc, dSetN_ap, hasN0, chg0, setAt1, setAt2, setAt3, fin_some, rix0, rix1, rix2, rix3, pow1018, Nat.reduceSub, List.replicate, List.replicate_zero, bnd_ok, bnd_exc, List.getElem?_cons_zero, List.getElem?_cons_succ, List.set_cons_succ, List.set_cons_zero, Option.map_some, if_true, decide_true, decide_false, Bool.not_true, Bool.not_false]
    rw [l2_div (gz_pos h) ho]
    simp -implicitDefEqProofs only [sqF_nx, sqF_ret, sqF_brk, sqF_ct, sqF_exc, sbF_ok, sbF_exc, ifF_t, ifF_f, dSeq_ap, dSkip_ap, dAsg_ap, dAsgO_ap, dEx_ap, dRet_ap, dRetN_ap, dIfS_ap, dBrk_ap, dCt_ap, dRaise_ap, dFz_ap, dFor_ap, forR_ok, forR_exc, forD_nil, dK_ap, cellV_fz, cellB_fz, cellB_ow, dVar_ap, dBor_ap, dOp2_ap, dOp1_ap, dAnd_ap, dOr_ap, dNot_ap, dNeg_ap, dIf_ap, andF_t, andF_f, orF_t, orF_f, notF_b, negF_i, iteF2_t, iteF2_f, dNil_ap, dCons_ap, seqF0, seqF1, seqF2, seqF3, seqF4, seqF5, dTup_ap, dLst_ap, dCall_ap, l2_add, l2_sub, l2_lt, l2_le, l2_gt, l2_ge, l2_eq, l2_ne, l2_tup20, l2_tup21, l1_abs, l1_int, l1_lenT, l1_lenL, l1_tupL, l1_tupT, l1_listS, l1_isI, l1_isB, l1_isT, dGcd_ap, gcdF_i, flo_ret, flo_nx, flo_exc, dSetN_ap, hasN0, chg0, setAt1, setAt2, setAt3, fin_some, rix0, rix1, rix2, rix3, pow1018, Nat.reduceSub, List.replicate, List.replicate_zero, bnd_ok, bnd_exc, List.getElem?_cons_zero, List.getElem?_cons_succ, List.set_cons_succ, List.set_cons_zero, Option.map_some, if_true, decide_true, decide_false, Bool.not_true, Bool.not_false]
    rw [l2_div (gz_pos h) ho]
    simp -implicitDefEqProofs only [sqF_nx, sqF_ret, sqF_brk, sqF_ct, sqF_exc, sbF_ok, sbF_exc, ifF_t, ifF_f, dSeq_ap, dSkip_ap, dAsg_ap, dAsgO_ap, dEx_ap, dRet_ap, dRetN_ap, dIfS_ap, dBrk_ap, dCt_ap, dRaise_ap, dFz_ap, dFor_ap, forR_ok, forR_exc, forD_nil, dK_ap, cellV_fz, cellB_fz, cellB_ow, dVar_ap, dBor_ap, dOp2_ap, dOp1_ap, dAnd_ap, dOr_ap, dNot_ap, dNeg_ap, dIf_ap, andF_t, andF_f, orF_t, orF_f, notF_b, negF_i, iteF2_t, iteF2_f, dNil_ap, dCons_ap, seqF0, seqF1, seqF2, seqF3, seqF4, seqF5, dTup_ap, dLst_ap, dCall_ap, l2_add, l2_sub, l2_lt, l2_le, l2_gt, l2_ge, l2_eq, l2_ne, l2_tup20, l2_tup21, l1_abs, l1_int, l1_lenT, l1_lenL, l1_tupL, l1_tupT, l1_listS, l1_isI, l1_isB, l1_isT, dGcd_ap, gcdF_i, flo_ret, flo_nx, flo_exc, dSetN_ap, hasN0, chg0, setAt1, setAt2, setAt3, fin_some, rix0, rix1, rix2, rix3, pow1018, Nat.reduceSub, List.replicate, List.replicate_zero, bnd_ok, bnd_exc, List.getElem?_cons_zero, List.getElem?_cons_succ, List.set_cons_succ, List.set_cons_zero, Option.map_some, if_true, decide_true, decide_false, Bool.not_true, Bool.not_false]
    unfold fr frN frD
    rw [if_neg hn, if_neg hn]
def plusD (f : List PV → Store → Res PV) : Dns := (dSeq (dRet (dCall f (dCons (dOp2 gAdd (dOp2 gMul (dOp2 gIx (dBor 0) (dK (.int 0))) (dOp2 gIx (dBor 1) (dK (.int 1)))) (dOp2 gMul (dOp2 gIx (dBor 1) (dK (.int 0))) (dOp2 gIx (dBor 0) (dK (.int 1))))) (dCons (dOp2 gMul (dOp2 gIx (dBor 0) (dK (.int 1))) (dOp2 gIx (dBor 1) (dK (.int 1)))) dNil)))) dSkip)
theorem plus_ok {f : List PV → Store → Res PV} (hf : FracOk f) : PlusOk (dDef 2 2 (plusD f)) := fun a b c d S hb hd b1 b2 b3 b4 => by
  rw [def2]; unfold plusD fr
  simp -implicitDefEqProofs only [sqF_nx, sqF_ret, sqF_brk, sqF_ct, sqF_exc, sbF_ok, sbF_exc, ifF_t, ifF_f, dSeq_ap, dSkip_ap, dAsg_ap, dAsgO_ap, dEx_ap, dRet_ap, dRetN_ap, dIfS_ap, dBrk_ap, dCt_ap, dRaise_ap, dFz_ap, dFor_ap, forR_ok, forR_exc, forD_nil, dK_ap, cellV_fz, cellB_fz, cellB_ow, dVar_ap, dBor_ap, dOp2_ap, dOp1_ap, dAnd_ap, dOr_ap, dNot_ap, dNeg_ap, dIf_ap, andF_t, andF_f, orF_t, orF_f, notF_b, negF_i, iteF2_t, iteF2_f, dNil_ap, dCons_ap, seqF0, seqF1, seqF2, seqF3, seqF4, seqF5, dTup_ap, dLst_ap, dCall_ap, l2_add, l2_sub, l2_lt, l2_le, l2_gt, l2_ge, l2_eq, l2_ne, l2_tup20, l2_tup21, l1_abs, l1_int, l1_lenT, l1_lenL, l1_tupL, l1_tupT, l1_listS, l1_isI, l1_isB, l1_isT, dGcd_ap, gcdF_i, flo_ret, flo_nx, flo_exc, dSetN_ap, hasN0, chg0, setAt1, setAt2, setAt3, fin_some, rix0, rix1, rix2, rix3, pow1018, Nat.reduceSub, List.replicate, List.replicate_zero, bnd_ok, bnd_exc, List.getElem?_cons_zero, List.getElem?_cons_succ, List.set_cons_succ, List.set_cons_zero, Option.map_some, if_true, decide_true, decide_false, Bool.not_true, Bool.not_false]
  rw [l2_mul (b1.ok (by decide)) (b4.ok (by decide))]
  simp -implicitDefEqProofs only [sqF_nx, sqF_ret, sqF_brk, sqF_ct, sqF_exc, sbF_ok, sbF_exc, ifF_t, ifF_f, dSeq_ap, dSkip_ap, dAsg_ap, dAsgO_ap, dEx_ap, dRet_ap, dRetN_ap, dIfS_ap, dBrk_ap, dCt_ap, dRaise_ap, dFz_ap, dFor_ap, forR_ok, forR_exc, forD_nil, dK_ap, cellV_fz, cellB_fz, cellB_ow, dVar_ap, dBor_ap, dOp2_ap, dOp1_ap, dAnd_ap, dOr_ap, dNot_ap, dNeg_ap, dIf_ap, andF_t, andF_f, orF_t, orF_f, notF_b, negF_i, iteF2_t, iteF2_f, dNil_ap, dCons_ap, seqF0, seqF1, seqF2, seqF3, seqF4, seqF5, dTup_ap, dLst_ap, dCall_ap, l2_add, l2_sub, l2_lt, l2_le, l2_gt, l2_ge, l2_eq, l2_ne, l2_tup20, l2_tup21, l1_abs, l1_int, l1_lenT, l1_lenL, l1_tupL, l1_tupT, l1_listS, l1_isI, l1_isB, l1_isT, dGcd_ap, gcdF_i, flo_ret, flo_nx, flo_exc, dSetN_ap, hasN0, chg0, setAt1, setAt2, setAt3, fin_some, rix0, rix1, rix2, rix3, pow1018, Nat.reduceSub, List.replicate, List.replicate_zero, bnd_ok, bnd_exc, List.getElem?_cons_zero, List.getElem?_cons_succ, List.set_cons_succ, List.set_cons_zero, Option.map_some, if_true, decide_true, decide_false, Bool.not_true, Bool.not_false]
  rw [l2_mul (b3.ok (by decide)) (b2.ok (by decide))]
  simp -implicitDefEqProofs only [sqF_nx, sqF_ret, sqF_brk, sqF_ct, sqF_exc, sbF_ok, sbF_exc, ifF_t, ifF_f, dSeq_ap, dSkip_ap, dAsg_ap, dAsgO_ap, dEx_ap, dRet_ap, dRetN_ap, dIfS_ap, dBrk_ap, dCt_ap, dRaise_ap, dFz_ap, dFor_ap, forR_ok, forR_exc, forD_nil, dK_ap, cellV_fz, cellB_fz, cellB_ow, dVar_ap, dBor_ap, dOp2_ap, dOp1_ap, dAnd_ap, dOr_ap, dNot_ap, dNeg_ap, dIf_ap, andF_t, andF_f, orF_t, orF_f, notF_b, negF_i, iteF2_t, iteF2_f, dNil_ap, dCons_ap, seqF0, seqF1, seqF2, seqF3, seqF4, seqF5, dTup_ap, dLst_ap, dCall_ap, l2_add, l2_sub, l2_lt, l2_le, l2_gt, l2_ge, l2_eq, l2_ne, l2_tup20, l2_tup21, l1_abs, l1_int, l1_lenT, l1_lenL, l1_tupL, l1_tupT, l1_listS, l1_isI, l1_isB, l1_isT, dGcd_ap, gcdF_i, flo_ret, flo_nx, flo_exc, dSetN_ap, hasN0, chg0, setAt1, setAt2, setAt3, fin_some, rix0, rix1, rix2, rix3, pow1018, Nat.reduceSub, List.replicate, List.replicate_zero, bnd_ok, bnd_exc, List.getElem?_cons_zero, List.getElem?_cons_succ, List.set_cons_succ, List.set_cons_zero, Option.map_some, if_true, decide_true, decide_false, Bool.not_true, Bool.not_false]
  rw [l2_mul (b2.ok (by decide)) (b4.ok (by decide))]
  simp -implicitDefEqProofs only [sqF_nx, sqF_ret, sqF_brk, sqF_ct, sqF_exc, sbF_ok, sbF_exc, ifF_t, ifF_f, dSeq_ap, dSkip_ap, dAsg_ap, dAsgO_ap, dEx_ap, dRet_ap, dRetN_ap, dIfS_ap, dBrk_ap, dCt_ap, dRaise_ap, dFz_ap, dFor_ap, forR_ok, forR_exc, forD_nil, dK_ap, cellV_fz, cellB_fz, cellB_ow, dVar_ap, dBor_ap, dOp2_ap, dOp1_ap, dAnd_ap, dOr_ap, dNot_ap, dNeg_ap, dIf_ap, andF_t, andF_f, orF_t, orF_f, notF_b, negF_i, iteF2_t, iteF2_f, dNil_ap, dCons_ap, seqF0, seqF1, seqF2, seqF3, seqF4, seqF5, dTup_ap, dLst_ap, dCall_ap, l2_add, l2_sub, l2_lt, l2_le, l2_gt, l2_ge, l2_eq, l2_ne, l2_tup20, l2_tup21, l1_abs, l1_int, l1_lenT, l1_lenL, l1_tupL, l1_tupT, l1_listS, l1_isI, l1_isB, l1_isT, dGcd_ap, gcdF_i, flo_ret, flo_nx, flo_exc, dSetN_ap, hasN0, chg0, setAt1, setAt2, setAt3, fin_some, rix0, rix1, rix2, rix3, pow1018, Nat.reduceSub, List.replicate, List.replicate_zero, bnd_ok, bnd_exc, List.getElem?_cons_zero, List.getElem?_cons_succ, List.set_cons_succ, List.set_cons_zero, Option.map_some, if_true, decide_true, decide_false, Bool.not_true, Bool.not_false]
  rw [hf _ _ _ (Int.ne_of_gt (Int.mul_pos hb hd)) ((b2.mul b4).mono (by decide))]
  simp -implicitDefEqProofs only [sqF_nx, sqF_ret, sqF_brk, sqF_ct, sqF_exc, sbF_ok, sbF_exc, ifF_t, ifF_f, dSeq_ap, dSkip_ap, dAsg_ap, dAsgO_ap, dEx_ap, dRet_ap, dRetN_ap, dIfS_ap, dBrk_ap, dCt_ap, dRaise_ap, dFz_ap, dFor_ap, forR_ok, forR_exc, forD_nil, dK_ap, cellV_fz, cellB_fz, cellB_ow, dVar_ap, dBor_ap, dOp2_ap, dOp1_ap, dAnd_ap, dOr_ap, dNot_ap, dNeg_ap, dIf_ap, andF_t, andF_f, orF_t, orF_f, notF_b, negF_i, iteF2_t, iteF2_f, dNil_ap, dCons_ap, seqF0, seqF1, seqF2, seqF3, seqF4, seqF5, dTup_ap, dLst_ap, dCall_ap, l2_add, l2_sub, l2_lt, l2_le, l2_gt, l2_ge, l2_eq, l2_ne, l2_tup20, l2_tup21, l1_abs, l1_int, l1_lenT, l1_lenL, l1_tupL, l1_tupT, l1_listS, l1_isI, l1_isB, l1_isT, dGcd_ap, gcdF_i, flo_ret, flo_nx, flo_exc, dSetN_ap, hasN0, chg0, setAt1, setAt2, setAt3, fin_some, rix0, rix1, rix2, rix3, pow1018, Nat.reduceSub, List.replicate, List.replicate_zero, bnd_ok, bnd_exc, List.getElem?_cons_zero, List.getElem?_cons_succ, List.set_cons_succ, List.set_cons_zero, Option.map_some, if_true, decide_true, decide_false, Bool.not_true, Bool.not_false]
  rfl
end Py
/-! Contracts: the trees that the laws draw. -/
namespace Py
open L2

inductive W0 where
  | one | buy | sell
inductive WT where
  | at_ | early
inductive W1 where
  | give | later | not_
inductive W2 where
  | scale | both | or_ | when | until | plus | minus | times | least | greatest | less | same | and_
def W0.s : W0 → PySem.Str
  | .one => "one" | .buy => "buy" | .sell => "sell"
def WT.s : WT → PySem.Str
  | .at_ => "at" | .early => "early"
def W1.s : W1 → PySem.Str
  | .give => "give" | .later => "later" | .not_ => "not"
def W2.s : W2 → PySem.Str
  | .scale => "scale" | .both => "both" | .or_ => "or" | .when => "when" | .until => "until" | .plus => "plus" | .minus => "minus" | .times => "times" | .least => "least" | .greatest => "greatest" | .less => "less" | .same => "same" | .and_ => "and"
inductive Pt where
  | price (w : W0) (g : Int) | num (n d : Int) | nothing | time (w : WT) (t : Int) (p : Pt) | n1 (w : W1) (p : Pt) | n2 (w : W2) (p q : Pt)
/-- as the text has it -/
def Pt.pv : Pt → PV
  | .price w g => .tup [.str w.s, .int g]
  | .num n d => .tup [.str "number", fr n d]
  | .nothing => .tup [.str "nothing"]
  | .time w t p => .tup [.str w.s, .int t, p.pv]
  | .n1 w p => .tup [.str w.s, p.pv]
  | .n2 w p q => .tup [.str w.s, p.pv, q.pv]
def Pt.hgt : Pt → Nat
  | .price _ _ => 1
  | .num _ _ => 1
  | .nothing => 1
  | .time _ _ p => p.hgt + 1
  | .n1 _ p => p.hgt + 1
  | .n2 _ p q => max p.hgt q.hgt + 1
/-- a number as it is drawn -/
def smallN (n d : Int) : Prop := 0 < d ∧ d ≤ 3 ∧ -6 ≤ n ∧ n ≤ 6 ∧ Nat.gcd n.natAbs d.natAbs = 1
def Pt.isV (g : Int) : Pt → Prop
  | .price .buy x => 0 ≤ x ∧ x < g
  | .price .sell x => 0 ≤ x ∧ x < g
  | .num n d => smallN n d
  | .n2 .plus p q => p.isV g ∧ q.isV g
  | .n2 .minus p q => p.isV g ∧ q.isV g
  | .n2 .times p q => p.isV g ∧ q.isV g
  | .n2 .least p q => p.isV g ∧ q.isV g
  | .n2 .greatest p q => p.isV g ∧ q.isV g
  | _ => False
def Pt.isC (g : Int) : Pt → Prop
  | .n2 .less p q => p.isV g ∧ q.isV g
  | .n2 .same p q => p.isV g ∧ q.isV g
  | .n1 .not_ p => p.isC g
  | .n2 .and_ p q => p.isC g ∧ q.isC g
  | _ => False
def Pt.isK (g : Int) : Pt → Prop
  | .nothing => True
  | .price .one x => 0 ≤ x ∧ x < g
  | .n2 .scale p q => p.isV g ∧ q.isK g
  | .n2 .both p q => p.isK g ∧ q.isK g
  | .n2 .or_ p q => p.isK g ∧ q.isK g
  | .n2 .when p q => p.isC g ∧ q.isK g
  | .n2 .until p q => p.isC g ∧ q.isK g
  | .n1 .give p => p.isK g
  | .n1 .later p => p.isK g
  | .time .at_ t p => 0 ≤ t ∧ t < 4 ∧ p.isK g
  | .time .early t p => 0 ≤ t ∧ t < 3 ∧ p.isK g
  | _ => False
section
variable {S : Store} {a b c d e : PV}
theorem t3_0 : lift2 gIx (.tup [a, b, c]) (.int 0) S = .ok a S := rfl
theorem t3_1 : lift2 gIx (.tup [a, b, c]) (.int 1) S = .ok b S := rfl
theorem t3_2 : lift2 gIx (.tup [a, b, c]) (.int 2) S = .ok c S := rfl
theorem t5_0 : lift2 gIx (.tup [a, b, c, d, e]) (.int 0) S = .ok a S := rfl
theorem t5_1 : lift2 gIx (.tup [a, b, c, d, e]) (.int 1) S = .ok b S := rfl
theorem t5_2 : lift2 gIx (.tup [a, b, c, d, e]) (.int 2) S = .ok c S := rfl
theorem t5_3 : lift2 gIx (.tup [a, b, c, d, e]) (.int 3) S = .ok d S := rfl
theorem t5_4 : lift2 gIx (.tup [a, b, c, d, e]) (.int 4) S = .ok e S := rfl
end
/-! ### a part, a number -/
def partD (f sgd take : List PV → Store → Res PV) : Dns := (dSeq (dRet (dCall f (dCons (dCall sgd (dCons (dVar 0) (dCons (dOp2 gMul (dBor 1) (dK (.int 2))) dNil))) (dCons (dOp2 gAdd (dK (.int 1)) (dCall take (dCons (dVar 0) (dCons (dK (.int 3)) dNil)))) dNil)))) dSkip)
def numberD (part : List PV → Store → Res PV) : Dns := (dSeq (dRet (dTup (dCons (dK (.str (PySem.Str.ofString "number"))) (dCons (dCall part (dCons (dVar 0) (dCons (dK (.int 3)) dNil))) dNil)))) dSkip)
def NumK (f : List PV → Store → Res PV) : Prop := ∀ R S, Dr R S → ∃ (n d : Int) (S' : Store), f [.ref 0] S = .ok (Pt.num n d).pv S' ∧ smallN n d ∧ Dr R S'
theorem num_ok {f sgd take : List PV → Store → Res PV} (hf : FracOk f) (hs : SignedOk sgd) (ht : TakeOk take) : NumK (dDef 1 1 (numberD (dDef 2 2 (partD f sgd take)))) := fun R S hd => by
  obtain ⟨r, S1, e1, h1, h2, d1⟩ := hs R S 6 hd (by decide) (by decide)
  obtain ⟨q, S2, e2, h3, h4, d2⟩ := ht R S1 3 d1 (by decide) (by decide +kernel)
  have hq : 1 + q ≠ 0 := by omega
  have lq : lt2 (1 + q) 8000 := lt2.mono (n := 2) (by unfold lt2; omega) (by decide)
  have e3 : dDef 2 2 (partD f sgd take) [.ref 0, .int 3] S = .ok (fr (frN r (1 + q)) (frD r (1 + q))) S2 := by
    rw [def2]; unfold partD
    simp -implicitDefEqProofs only [sqF_nx, sqF_ret, sqF_brk, sqF_ct, sqF_exc, sbF_ok, sbF_exc, ifF_t, ifF_f, dSeq_ap, dSkip_ap, dAsg_ap, dAsgO_ap, dEx_ap, dRet_ap, dRetN_ap, dIfS_ap, dBrk_ap, dCt_ap, dRaise_ap, dFz_ap, dFor_ap, forR_ok, forR_exc, forD_nil, dK_ap, cellV_fz, cellB_fz, cellB_ow, dVar_ap, dBor_ap, dOp2_ap, dOp1_ap, dAnd_ap, dOr_ap, dNot_ap, dNeg_ap, dIf_ap, andF_t, andF_f, orF_t, orF_f, notF_b, negF_i, iteF2_t, iteF2_f, dNil_ap, dCons_ap, seqF0, seqF1, seqF2, seqF3, seqF4, seqF5, dTup_ap, dLst_ap, dCall_ap, l2_add, l2_sub, l2_lt, l2_le, l2_gt, l2_ge, l2_eq, l2_ne, l2_tup20, l2_tup21, l1_abs, l1_int, l1_lenT, l1_lenL, l1_tupL, l1_tupT, l1_listS, l1_isI, l1_isB, l1_isT, dGcd_ap, gcdF_i, flo_ret, flo_nx, flo_exc, dSetN_ap, hasN0, chg0, setAt1, setAt2, setAt3, fin_some, rix0, rix1, rix2, rix3, pow1018, Nat.reduceSub, List.replicate, List.replicate_zero, bnd_ok, bnd_exc, List.getElem?_cons_zero, List.getElem?_cons_succ, List.set_cons_succ, List.set_cons_zero, Option.map_some, if_true, decide_true, decide_false, Bool.not_true, Bool.not_false]
    rw [l2_mul (by decide +kernel) (by decide +kernel)]
    simp -implicitDefEqProofs only [sqF_nx, sqF_ret, sqF_brk, sqF_ct, sqF_exc, sbF_ok, sbF_exc, ifF_t, ifF_f, dSeq_ap, dSkip_ap, dAsg_ap, dAsgO_ap, dEx_ap, dRet_ap, dRetN_ap, dIfS_ap, dBrk_ap, dCt_ap, dRaise_ap, dFz_ap, dFor_ap, forR_ok, forR_exc, forD_nil, dK_ap, cellV_fz, cellB_fz, cellB_ow, dVar_ap, dBor_ap, dOp2_ap, dOp1_ap, dAnd_ap, dOr_ap, dNot_ap, dNeg_ap, dIf_ap, andF_t, andF_f, orF_t, orF_f, notF_b, negF_i, iteF2_t, iteF2_f, dNil_ap, dCons_ap, seqF0, seqF1, seqF2, seqF3, seqF4, seqF5, dTup_ap, dLst_ap, dCall_ap, l2_add, l2_sub, l2_lt, l2_le, l2_gt, l2_ge, l2_eq, l2_ne, l2_tup20, l2_tup21, l1_abs, l1_int, l1_lenT, l1_lenL, l1_tupL, l1_tupT, l1_listS, l1_isI, l1_isB, l1_isT, dGcd_ap, gcdF_i, flo_ret, flo_nx, flo_exc, dSetN_ap, hasN0, chg0, setAt1, setAt2, setAt3, fin_some, rix0, rix1, rix2, rix3, pow1018, Nat.reduceSub, List.replicate, List.replicate_zero, bnd_ok, bnd_exc, List.getElem?_cons_zero, List.getElem?_cons_succ, List.set_cons_succ, List.set_cons_zero, Option.map_some, if_true, decide_true, decide_false, Bool.not_true, Bool.not_false, Int.reduceLT, Int.reduceLE, Int.reduceEq, Int.reduceSub, Int.reduceAdd, Int.reduceMul, Int.reduceNeg, if_false]
    rw [e1]
    simp -implicitDefEqProofs only [sqF_nx, sqF_ret, sqF_brk, sqF_ct, sqF_exc, sbF_ok, sbF_exc, ifF_t, ifF_f, dSeq_ap, dSkip_ap, dAsg_ap, dAsgO_ap, dEx_ap, dRet_ap, dRetN_ap, dIfS_ap, dBrk_ap, dCt_ap, dRaise_ap, dFz_ap, dFor_ap, forR_ok, forR_exc, forD_nil, dK_ap, cellV_fz, cellB_fz, cellB_ow, dVar_ap, dBor_ap, dOp2_ap, dOp1_ap, dAnd_ap, dOr_ap, dNot_ap, dNeg_ap, dIf_ap, andF_t, andF_f, orF_t, orF_f, notF_b, negF_i, iteF2_t, iteF2_f, dNil_ap, dCons_ap, seqF0, seqF1, seqF2, seqF3, seqF4, seqF5, dTup_ap, dLst_ap, dCall_ap, l2_add, l2_sub, l2_lt, l2_le, l2_gt, l2_ge, l2_eq, l2_ne, l2_tup20, l2_tup21, l1_abs, l1_int, l1_lenT, l1_lenL, l1_tupL, l1_tupT, l1_listS, l1_isI, l1_isB, l1_isT, dGcd_ap, gcdF_i, flo_ret, flo_nx, flo_exc, dSetN_ap, hasN0, chg0, setAt1, setAt2, setAt3, fin_some, rix0, rix1, rix2, rix3, pow1018, Nat.reduceSub, List.replicate, List.replicate_zero, bnd_ok, bnd_exc, List.getElem?_cons_zero, List.getElem?_cons_succ, List.set_cons_succ, List.set_cons_zero, Option.map_some, if_true, decide_true, decide_false, Bool.not_true, Bool.not_false, Int.reduceLT, Int.reduceLE, Int.reduceEq, Int.reduceSub, Int.reduceAdd, Int.reduceMul, Int.reduceNeg, if_false]
    rw [e2]
    simp -implicitDefEqProofs only [sqF_nx, sqF_ret, sqF_brk, sqF_ct, sqF_exc, sbF_ok, sbF_exc, ifF_t, ifF_f, dSeq_ap, dSkip_ap, dAsg_ap, dAsgO_ap, dEx_ap, dRet_ap, dRetN_ap, dIfS_ap, dBrk_ap, dCt_ap, dRaise_ap, dFz_ap, dFor_ap, forR_ok, forR_exc, forD_nil, dK_ap, cellV_fz, cellB_fz, cellB_ow, dVar_ap, dBor_ap, dOp2_ap, dOp1_ap, dAnd_ap, dOr_ap, dNot_ap, dNeg_ap, dIf_ap, andF_t, andF_f, orF_t, orF_f, notF_b, negF_i, iteF2_t, iteF2_f, dNil_ap, dCons_ap, seqF0, seqF1, seqF2, seqF3, seqF4, seqF5, dTup_ap, dLst_ap, dCall_ap, l2_add, l2_sub, l2_lt, l2_le, l2_gt, l2_ge, l2_eq, l2_ne, l2_tup20, l2_tup21, l1_abs, l1_int, l1_lenT, l1_lenL, l1_tupL, l1_tupT, l1_listS, l1_isI, l1_isB, l1_isT, dGcd_ap, gcdF_i, flo_ret, flo_nx, flo_exc, dSetN_ap, hasN0, chg0, setAt1, setAt2, setAt3, fin_some, rix0, rix1, rix2, rix3, pow1018, Nat.reduceSub, List.replicate, List.replicate_zero, bnd_ok, bnd_exc, List.getElem?_cons_zero, List.getElem?_cons_succ, List.set_cons_succ, List.set_cons_zero, Option.map_some, if_true, decide_true, decide_false, Bool.not_true, Bool.not_false, Int.reduceLT, Int.reduceLE, Int.reduceEq, Int.reduceSub, Int.reduceAdd, Int.reduceMul, Int.reduceNeg, if_false]
    rw [hf _ _ _ hq lq]
    simp -implicitDefEqProofs only [sqF_nx, sqF_ret, sqF_brk, sqF_ct, sqF_exc, sbF_ok, sbF_exc, ifF_t, ifF_f, dSeq_ap, dSkip_ap, dAsg_ap, dAsgO_ap, dEx_ap, dRet_ap, dRetN_ap, dIfS_ap, dBrk_ap, dCt_ap, dRaise_ap, dFz_ap, dFor_ap, forR_ok, forR_exc, forD_nil, dK_ap, cellV_fz, cellB_fz, cellB_ow, dVar_ap, dBor_ap, dOp2_ap, dOp1_ap, dAnd_ap, dOr_ap, dNot_ap, dNeg_ap, dIf_ap, andF_t, andF_f, orF_t, orF_f, notF_b, negF_i, iteF2_t, iteF2_f, dNil_ap, dCons_ap, seqF0, seqF1, seqF2, seqF3, seqF4, seqF5, dTup_ap, dLst_ap, dCall_ap, l2_add, l2_sub, l2_lt, l2_le, l2_gt, l2_ge, l2_eq, l2_ne, l2_tup20, l2_tup21, l1_abs, l1_int, l1_lenT, l1_lenL, l1_tupL, l1_tupT, l1_listS, l1_isI, l1_isB, l1_isT, dGcd_ap, gcdF_i, flo_ret, flo_nx, flo_exc, dSetN_ap, hasN0, chg0, setAt1, setAt2, setAt3, fin_some, rix0, rix1, rix2, rix3, pow1018, Nat.reduceSub, List.replicate, List.replicate_zero, bnd_ok, bnd_exc, List.getElem?_cons_zero, List.getElem?_cons_succ, List.set_cons_succ, List.set_cons_zero, Option.map_some, if_true, decide_true, decide_false, Bool.not_true, Bool.not_false, Int.reduceLT, Int.reduceLE, Int.reduceEq, Int.reduceSub, Int.reduceAdd, Int.reduceMul, Int.reduceNeg, if_false]
  refine ⟨frN r (1 + q), frD r (1 + q), S2, ?_, ⟨frD_pos hq, ?_, ?_, ?_, fr_coprime hq⟩, d2⟩
  · rw [def1]; unfold numberD
    simp -implicitDefEqProofs only [sqF_nx, sqF_ret, sqF_brk, sqF_ct, sqF_exc, sbF_ok, sbF_exc, ifF_t, ifF_f, dSeq_ap, dSkip_ap, dAsg_ap, dAsgO_ap, dEx_ap, dRet_ap, dRetN_ap, dIfS_ap, dBrk_ap, dCt_ap, dRaise_ap, dFz_ap, dFor_ap, forR_ok, forR_exc, forD_nil, dK_ap, cellV_fz, cellB_fz, cellB_ow, dVar_ap, dBor_ap, dOp2_ap, dOp1_ap, dAnd_ap, dOr_ap, dNot_ap, dNeg_ap, dIf_ap, andF_t, andF_f, orF_t, orF_f, notF_b, negF_i, iteF2_t, iteF2_f, dNil_ap, dCons_ap, seqF0, seqF1, seqF2, seqF3, seqF4, seqF5, dTup_ap, dLst_ap, dCall_ap, l2_add, l2_sub, l2_lt, l2_le, l2_gt, l2_ge, l2_eq, l2_ne, l2_tup20, l2_tup21, l1_abs, l1_int, l1_lenT, l1_lenL, l1_tupL, l1_tupT, l1_listS, l1_isI, l1_isB, l1_isT, dGcd_ap, gcdF_i, flo_ret, flo_nx, flo_exc, dSetN_ap, hasN0, chg0, setAt1, setAt2, setAt3, fin_some, rix0, rix1, rix2, rix3, pow1018, Nat.reduceSub, List.replicate, List.replicate_zero, bnd_ok, bnd_exc, List.getElem?_cons_zero, List.getElem?_cons_succ, List.set_cons_succ, List.set_cons_zero, Option.map_some, if_true, decide_true, decide_false, Bool.not_true, Bool.not_false, Int.reduceLT, Int.reduceLE, Int.reduceEq, Int.reduceSub, Int.reduceAdd, Int.reduceMul, Int.reduceNeg, if_false]
    rw [e3]
    simp -implicitDefEqProofs only [sqF_nx, sqF_ret, sqF_brk, sqF_ct, sqF_exc, sbF_ok, sbF_exc, ifF_t, ifF_f, dSeq_ap, dSkip_ap, dAsg_ap, dAsgO_ap, dEx_ap, dRet_ap, dRetN_ap, dIfS_ap, dBrk_ap, dCt_ap, dRaise_ap, dFz_ap, dFor_ap, forR_ok, forR_exc, forD_nil, dK_ap, cellV_fz, cellB_fz, cellB_ow, dVar_ap, dBor_ap, dOp2_ap, dOp1_ap, dAnd_ap, dOr_ap, dNot_ap, dNeg_ap, dIf_ap, andF_t, andF_f, orF_t, orF_f, notF_b, negF_i, iteF2_t, iteF2_f, dNil_ap, dCons_ap, seqF0, seqF1, seqF2, seqF3, seqF4, seqF5, dTup_ap, dLst_ap, dCall_ap, l2_add, l2_sub, l2_lt, l2_le, l2_gt, l2_ge, l2_eq, l2_ne, l2_tup20, l2_tup21, l1_abs, l1_int, l1_lenT, l1_lenL, l1_tupL, l1_tupT, l1_listS, l1_isI, l1_isB, l1_isT, dGcd_ap, gcdF_i, flo_ret, flo_nx, flo_exc, dSetN_ap, hasN0, chg0, setAt1, setAt2, setAt3, fin_some, rix0, rix1, rix2, rix3, pow1018, Nat.reduceSub, List.replicate, List.replicate_zero, bnd_ok, bnd_exc, List.getElem?_cons_zero, List.getElem?_cons_succ, List.set_cons_succ, List.set_cons_zero, Option.map_some, if_true, decide_true, decide_false, Bool.not_true, Bool.not_false, Int.reduceLT, Int.reduceLE, Int.reduceEq, Int.reduceSub, Int.reduceAdd, Int.reduceMul, Int.reduceNeg, if_false]
    rfl
  · have := frD_le r (1 + q); omega
  · have := frN_le r (1 + q); omega
  · have := frN_le r (1 + q); omega
/-! ### values -/
def valueD (take num val : List PV → Store → Res PV) : Dns := (dSeq (dAsg 3 (dIf (dOp2 gGt (dBor 2) (dK (.int 0))) (dCall take (dCons (dVar 0) (dCons (dK (.int 8)) dNil))) (dCall take (dCons (dVar 0) (dCons (dK (.int 3)) dNil))))) (dSeq (dIfS (dOp2 gEq (dBor 3) (dK (.int 0))) (dSeq (dRet (dCall num (dCons (dVar 0) dNil))) dSkip) dSkip) (dSeq (dIfS (dOp2 gLt (dBor 3) (dK (.int 3))) (dSeq (dRet (dTup (dCons (dOp2 gIx (dTup (dCons (dK (.str (PySem.Str.ofString "buy"))) (dCons (dK (.str (PySem.Str.ofString "sell"))) dNil))) (dOp2 gSub (dBor 3) (dK (.int 1)))) (dCons (dCall take (dCons (dVar 0) (dCons (dVar 1) dNil))) dNil)))) dSkip) dSkip) (dSeq (dAsg 4 (dOp2 gIx (dTup (dCons (dK (.str (PySem.Str.ofString "plus"))) (dCons (dK (.str (PySem.Str.ofString "minus"))) (dCons (dK (.str (PySem.Str.ofString "times"))) (dCons (dK (.str (PySem.Str.ofString "least"))) (dCons (dK (.str (PySem.Str.ofString "greatest"))) dNil)))))) (dOp2 gSub (dBor 3) (dK (.int 3))))) (dSeq (dRet (dTup (dCons (dVar 4) (dCons (dCall val (dCons (dVar 0) (dCons (dVar 1) (dCons (dOp2 gSub (dBor 2) (dK (.int 1))) dNil)))) (dCons (dCall val (dCons (dVar 0) (dCons (dVar 1) (dCons (dOp2 gSub (dBor 2) (dK (.int 1))) dNil)))) dNil))))) dSkip)))))
def ValOk (n : Nat) (f : List PV → Store → Res PV) : Prop := ∀ R S (g dp : Int), Dr R S → 0 < g → okI g = true → dp = n → ∃ (p : Pt) (S' : Store), f [.ref 0, .int g, .int dp] S = .ok p.pv S' ∧ p.isV g ∧ p.hgt ≤ n + 1 ∧ Dr R S'
section
variable {take num val : List PV → Store → Res PV} {R S : Store} {g dp : Int}
/-- a price -/
theorem val_price (ht : TakeOk take) {S1 : Store} (hd : Dr R S1) (hg : 0 < g) (ho : okI g = true) {m : Int} (hm : m = 1 ∨ m = 2) (e : dIf (dOp2 gGt (dBor 2) (dK (.int 0))) (dCall take (dCons (dVar 0) (dCons (dK (.int 8)) dNil))) (dCall take (dCons (dVar 0) (dCons (dK (.int 3)) dNil))) [.fz (.ref 0), .fz (.int g), .fz (.int dp), .un, .un] S = .ok (.int m) S1) :
    ∃ (p : Pt) (S' : Store), dDef 5 3 (valueD take num val) [.ref 0, .int g, .int dp] S = .ok p.pv S' ∧ p.isV g ∧ p.hgt ≤ 1 ∧ Dr R S' := by
  obtain ⟨x, S2, e2, h1, h2, d2⟩ := ht R S1 g hd hg ho
  rw [def3]; unfold valueD
  rcases hm with rfl | rfl
  · refine ⟨.price .buy x, S2, ?_, ⟨h1, h2⟩, Nat.le_refl _, d2⟩
    rw [dSeq_ap, dAsg_ap]
    simp only [Nat.reduceSub, List.replicate, e]
    simp -implicitDefEqProofs only [sqF_nx, sqF_ret, sqF_brk, sqF_ct, sqF_exc, sbF_ok, sbF_exc, ifF_t, ifF_f, dSeq_ap, dSkip_ap, dAsg_ap, dAsgO_ap, dEx_ap, dRet_ap, dRetN_ap, dIfS_ap, dBrk_ap, dCt_ap, dRaise_ap, dFz_ap, dFor_ap, forR_ok, forR_exc, forD_nil, dK_ap, cellV_fz, cellB_fz, cellB_ow, dVar_ap, dBor_ap, dOp2_ap, dOp1_ap, dAnd_ap, dOr_ap, dNot_ap, dNeg_ap, dIf_ap, andF_t, andF_f, orF_t, orF_f, notF_b, negF_i, iteF2_t, iteF2_f, dNil_ap, dCons_ap, seqF0, seqF1, seqF2, seqF3, seqF4, seqF5, dTup_ap, dLst_ap, dCall_ap, l2_add, l2_sub, l2_lt, l2_le, l2_gt, l2_ge, l2_eq, l2_ne, l2_tup20, l2_tup21, l1_abs, l1_int, l1_lenT, l1_lenL, l1_tupL, l1_tupT, l1_listS, l1_isI, l1_isB, l1_isT, dGcd_ap, gcdF_i, flo_ret, flo_nx, flo_exc, dSetN_ap, hasN0, chg0, setAt1, setAt2, setAt3, fin_some, rix0, rix1, rix2, rix3, pow1018, Nat.reduceSub, List.replicate, List.replicate_zero, bnd_ok, bnd_exc, List.getElem?_cons_zero, List.getElem?_cons_succ, List.set_cons_succ, List.set_cons_zero, Option.map_some, if_true, decide_true, decide_false, Bool.not_true, Bool.not_false, Int.reduceLT, Int.reduceLE, Int.reduceEq, Int.reduceSub, Int.reduceAdd, Int.reduceMul, Int.reduceNeg, if_false]
    rw [e2]
    simp -implicitDefEqProofs only [sqF_nx, sqF_ret, sqF_brk, sqF_ct, sqF_exc, sbF_ok, sbF_exc, ifF_t, ifF_f, dSeq_ap, dSkip_ap, dAsg_ap, dAsgO_ap, dEx_ap, dRet_ap, dRetN_ap, dIfS_ap, dBrk_ap, dCt_ap, dRaise_ap, dFz_ap, dFor_ap, forR_ok, forR_exc, forD_nil, dK_ap, cellV_fz, cellB_fz, cellB_ow, dVar_ap, dBor_ap, dOp2_ap, dOp1_ap, dAnd_ap, dOr_ap, dNot_ap, dNeg_ap, dIf_ap, andF_t, andF_f, orF_t, orF_f, notF_b, negF_i, iteF2_t, iteF2_f, dNil_ap, dCons_ap, seqF0, seqF1, seqF2, seqF3, seqF4, seqF5, dTup_ap, dLst_ap, dCall_ap, l2_add, l2_sub, l2_lt, l2_le, l2_gt, l2_ge, l2_eq, l2_ne, l2_tup20, l2_tup21, l1_abs, l1_int, l1_lenT, l1_lenL, l1_tupL, l1_tupT, l1_listS, l1_isI, l1_isB, l1_isT, dGcd_ap, gcdF_i, flo_ret, flo_nx, flo_exc, dSetN_ap, hasN0, chg0, setAt1, setAt2, setAt3, fin_some, rix0, rix1, rix2, rix3, pow1018, Nat.reduceSub, List.replicate, List.replicate_zero, bnd_ok, bnd_exc, List.getElem?_cons_zero, List.getElem?_cons_succ, List.set_cons_succ, List.set_cons_zero, Option.map_some, if_true, decide_true, decide_false, Bool.not_true, Bool.not_false, Int.reduceLT, Int.reduceLE, Int.reduceEq, Int.reduceSub, Int.reduceAdd, Int.reduceMul, Int.reduceNeg, if_false]
    rfl
  · refine ⟨.price .sell x, S2, ?_, ⟨h1, h2⟩, Nat.le_refl _, d2⟩
    rw [dSeq_ap, dAsg_ap]
    simp only [Nat.reduceSub, List.replicate, e]
    simp -implicitDefEqProofs only [sqF_nx, sqF_ret, sqF_brk, sqF_ct, sqF_exc, sbF_ok, sbF_exc, ifF_t, ifF_f, dSeq_ap, dSkip_ap, dAsg_ap, dAsgO_ap, dEx_ap, dRet_ap, dRetN_ap, dIfS_ap, dBrk_ap, dCt_ap, dRaise_ap, dFz_ap, dFor_ap, forR_ok, forR_exc, forD_nil, dK_ap, cellV_fz, cellB_fz, cellB_ow, dVar_ap, dBor_ap, dOp2_ap, dOp1_ap, dAnd_ap, dOr_ap, dNot_ap, dNeg_ap, dIf_ap, andF_t, andF_f, orF_t, orF_f, notF_b, negF_i, iteF2_t, iteF2_f, dNil_ap, dCons_ap, seqF0, seqF1, seqF2, seqF3, seqF4, seqF5, dTup_ap, dLst_ap, dCall_ap, l2_add, l2_sub, l2_lt, l2_le, l2_gt, l2_ge, l2_eq, l2_ne, l2_tup20, l2_tup21, l1_abs, l1_int, l1_lenT, l1_lenL, l1_tupL, l1_tupT, l1_listS, l1_isI, l1_isB, l1_isT, dGcd_ap, gcdF_i, flo_ret, flo_nx, flo_exc, dSetN_ap, hasN0, chg0, setAt1, setAt2, setAt3, fin_some, rix0, rix1, rix2, rix3, pow1018, Nat.reduceSub, List.replicate, List.replicate_zero, bnd_ok, bnd_exc, List.getElem?_cons_zero, List.getElem?_cons_succ, List.set_cons_succ, List.set_cons_zero, Option.map_some, if_true, decide_true, decide_false, Bool.not_true, Bool.not_false, Int.reduceLT, Int.reduceLE, Int.reduceEq, Int.reduceSub, Int.reduceAdd, Int.reduceMul, Int.reduceNeg, if_false]
    rw [e2]
    simp -implicitDefEqProofs only [sqF_nx, sqF_ret, sqF_brk, sqF_ct, sqF_exc, sbF_ok, sbF_exc, ifF_t, ifF_f, dSeq_ap, dSkip_ap, dAsg_ap, dAsgO_ap, dEx_ap, dRet_ap, dRetN_ap, dIfS_ap, dBrk_ap, dCt_ap, dRaise_ap, dFz_ap, dFor_ap, forR_ok, forR_exc, forD_nil, dK_ap, cellV_fz, cellB_fz, cellB_ow, dVar_ap, dBor_ap, dOp2_ap, dOp1_ap, dAnd_ap, dOr_ap, dNot_ap, dNeg_ap, dIf_ap, andF_t, andF_f, orF_t, orF_f, notF_b, negF_i, iteF2_t, iteF2_f, dNil_ap, dCons_ap, seqF0, seqF1, seqF2, seqF3, seqF4, seqF5, dTup_ap, dLst_ap, dCall_ap, l2_add, l2_sub, l2_lt, l2_le, l2_gt, l2_ge, l2_eq, l2_ne, l2_tup20, l2_tup21, l1_abs, l1_int, l1_lenT, l1_lenL, l1_tupL, l1_tupT, l1_listS, l1_isI, l1_isB, l1_isT, dGcd_ap, gcdF_i, flo_ret, flo_nx, flo_exc, dSetN_ap, hasN0, chg0, setAt1, setAt2, setAt3, fin_some, rix0, rix1, rix2, rix3, pow1018, Nat.reduceSub, List.replicate, List.replicate_zero, bnd_ok, bnd_exc, List.getElem?_cons_zero, List.getElem?_cons_succ, List.set_cons_succ, List.set_cons_zero, Option.map_some, if_true, decide_true, decide_false, Bool.not_true, Bool.not_false, Int.reduceLT, Int.reduceLE, Int.reduceEq, Int.reduceSub, Int.reduceAdd, Int.reduceMul, Int.reduceNeg, if_false]
    rfl
theorem val_num (hn : NumK num) {S1 : Store} (hd : Dr R S1) (e : dIf (dOp2 gGt (dBor 2) (dK (.int 0))) (dCall take (dCons (dVar 0) (dCons (dK (.int 8)) dNil))) (dCall take (dCons (dVar 0) (dCons (dK (.int 3)) dNil))) [.fz (.ref 0), .fz (.int g), .fz (.int dp), .un, .un] S = .ok (.int 0) S1) :
    ∃ (p : Pt) (S' : Store), dDef 5 3 (valueD take num val) [.ref 0, .int g, .int dp] S = .ok p.pv S' ∧ p.isV g ∧ p.hgt ≤ 1 ∧ Dr R S' := by
  obtain ⟨n, d, S2, e2, h1, d2⟩ := hn R S1 hd
  refine ⟨.num n d, S2, ?_, h1, Nat.le_refl _, d2⟩
  rw [def3]; unfold valueD
  rw [dSeq_ap, dAsg_ap]
  simp only [Nat.reduceSub, List.replicate, e]
  simp -implicitDefEqProofs only [sqF_nx, sqF_ret, sqF_brk, sqF_ct, sqF_exc, sbF_ok, sbF_exc, ifF_t, ifF_f, dSeq_ap, dSkip_ap, dAsg_ap, dAsgO_ap, dEx_ap, dRet_ap, dRetN_ap, dIfS_ap, dBrk_ap, dCt_ap, dRaise_ap, dFz_ap, dFor_ap, forR_ok, forR_exc, forD_nil, dK_ap, cellV_fz, cellB_fz, cellB_ow, dVar_ap, dBor_ap, dOp2_ap, dOp1_ap, dAnd_ap, dOr_ap, dNot_ap, dNeg_ap, dIf_ap, andF_t, andF_f, orF_t, orF_f, notF_b, negF_i, iteF2_t, iteF2_f, dNil_ap, dCons_ap, seqF0, seqF1, seqF2, seqF3, seqF4, seqF5, dTup_ap, dLst_ap, dCall_ap, l2_add, l2_sub, l2_lt, l2_le, l2_gt, l2_ge, l2_eq, l2_ne, l2_tup20, l2_tup21, l1_abs, l1_int, l1_lenT, l1_lenL, l1_tupL, l1_tupT, l1_listS, l1_isI, l1_isB, l1_isT, dGcd_ap, gcdF_i, flo_ret, flo_nx, flo_exc, dSetN_ap, hasN0, chg0, setAt1, setAt2, setAt3, fin_some, rix0, rix1, rix2, rix3, pow1018, Nat.reduceSub, List.replicate, List.replicate_zero, bnd_ok, bnd_exc, List.getElem?_cons_zero, List.getElem?_cons_succ, List.set_cons_succ, List.set_cons_zero, Option.map_some, if_true, decide_true, decide_false, Bool.not_true, Bool.not_false, Int.reduceLT, Int.reduceLE, Int.reduceEq, Int.reduceSub, Int.reduceAdd, Int.reduceMul, Int.reduceNeg, if_false]
  rw [e2]
  simp -implicitDefEqProofs only [sqF_nx, sqF_ret, sqF_brk, sqF_ct, sqF_exc, sbF_ok, sbF_exc, ifF_t, ifF_f, dSeq_ap, dSkip_ap, dAsg_ap, dAsgO_ap, dEx_ap, dRet_ap, dRetN_ap, dIfS_ap, dBrk_ap, dCt_ap, dRaise_ap, dFz_ap, dFor_ap, forR_ok, forR_exc, forD_nil, dK_ap, cellV_fz, cellB_fz, cellB_ow, dVar_ap, dBor_ap, dOp2_ap, dOp1_ap, dAnd_ap, dOr_ap, dNot_ap, dNeg_ap, dIf_ap, andF_t, andF_f, orF_t, orF_f, notF_b, negF_i, iteF2_t, iteF2_f, dNil_ap, dCons_ap, seqF0, seqF1, seqF2, seqF3, seqF4, seqF5, dTup_ap, dLst_ap, dCall_ap, l2_add, l2_sub, l2_lt, l2_le, l2_gt, l2_ge, l2_eq, l2_ne, l2_tup20, l2_tup21, l1_abs, l1_int, l1_lenT, l1_lenL, l1_tupL, l1_tupT, l1_listS, l1_isI, l1_isB, l1_isT, dGcd_ap, gcdF_i, flo_ret, flo_nx, flo_exc, dSetN_ap, hasN0, chg0, setAt1, setAt2, setAt3, fin_some, rix0, rix1, rix2, rix3, pow1018, Nat.reduceSub, List.replicate, List.replicate_zero, bnd_ok, bnd_exc, List.getElem?_cons_zero, List.getElem?_cons_succ, List.set_cons_succ, List.set_cons_zero, Option.map_some, if_true, decide_true, decide_false, Bool.not_true, Bool.not_false, Int.reduceLT, Int.reduceLE, Int.reduceEq, Int.reduceSub, Int.reduceAdd, Int.reduceMul, Int.reduceNeg, if_false]
end
theorem value_ok {take num val : Nat → List PV → Store → Res PV} (hv : ∀ k, val (k + 1) = dDef 5 3 (valueD (take k) (num k) (val k))) (ht : ∀ k, TakeOk (take (k + 1))) (hn : ∀ k, NumK (num (k + 4))) : ∀ (n k : Nat), ValOk n (val (k + n + 5))
  | 0, k => fun R S g dp hd hg ho hdp => by
    rw [show k + 0 + 5 = k + 4 + 1 from rfl, hv]
    obtain ⟨m, S1, e1, h1, h2, d1⟩ := ht (k + 3) R S 3 hd (by decide) (by decide +kernel)
    have hp : ¬ (0 < dp) := by omega
    have e : dIf (dOp2 gGt (dBor 2) (dK (.int 0))) (dCall (take (k + 4)) (dCons (dVar 0) (dCons (dK (.int 8)) dNil))) (dCall (take (k + 4)) (dCons (dVar 0) (dCons (dK (.int 3)) dNil))) [.fz (.ref 0), .fz (.int g), .fz (.int dp), .un, .un] S = .ok (.int m) S1 := by
      simp -implicitDefEqProofs only [sqF_nx, sqF_ret, sqF_brk, sqF_ct, sqF_exc, sbF_ok, sbF_exc, ifF_t, ifF_f, dSeq_ap, dSkip_ap, dAsg_ap, dAsgO_ap, dEx_ap, dRet_ap, dRetN_ap, dIfS_ap, dBrk_ap, dCt_ap, dRaise_ap, dFz_ap, dFor_ap, forR_ok, forR_exc, forD_nil, dK_ap, cellV_fz, cellB_fz, cellB_ow, dVar_ap, dBor_ap, dOp2_ap, dOp1_ap, dAnd_ap, dOr_ap, dNot_ap, dNeg_ap, dIf_ap, andF_t, andF_f, orF_t, orF_f, notF_b, negF_i, iteF2_t, iteF2_f, dNil_ap, dCons_ap, seqF0, seqF1, seqF2, seqF3, seqF4, seqF5, dTup_ap, dLst_ap, dCall_ap, l2_add, l2_sub, l2_lt, l2_le, l2_gt, l2_ge, l2_eq, l2_ne, l2_tup20, l2_tup21, l1_abs, l1_int, l1_lenT, l1_lenL, l1_tupL, l1_tupT, l1_listS, l1_isI, l1_isB, l1_isT, dGcd_ap, gcdF_i, flo_ret, flo_nx, flo_exc, dSetN_ap, hasN0, chg0, setAt1, setAt2, setAt3, fin_some, rix0, rix1, rix2, rix3, pow1018, Nat.reduceSub, List.replicate, List.replicate_zero, bnd_ok, bnd_exc, List.getElem?_cons_zero, List.getElem?_cons_succ, List.set_cons_succ, List.set_cons_zero, Option.map_some, if_true, decide_true, decide_false, Bool.not_true, Bool.not_false, Int.reduceLT, Int.reduceLE, Int.reduceEq, Int.reduceSub, Int.reduceAdd, Int.reduceMul, Int.reduceNeg, if_false, hp]
      rw [e1]
    by_cases h0 : m = 0
    · subst h0
      exact val_num (hn k) d1 e
    · exact val_price (ht (k + 3)) d1 hg ho (by omega) e
  | n + 1, k => fun R S g dp hd hg ho hdp => by
    rw [show k + (n + 1) + 5 = k + n + 5 + 1 by omega, hv]
    have ih := value_ok hv ht hn n k
    obtain ⟨m, S1, e1, h1, h2, d1⟩ := ht (k + n + 4) R S 8 hd (by decide) (by decide +kernel)
    have hp : (0 < dp) := by omega
    have e : dIf (dOp2 gGt (dBor 2) (dK (.int 0))) (dCall (take (k + n + 5)) (dCons (dVar 0) (dCons (dK (.int 8)) dNil))) (dCall (take (k + n + 5)) (dCons (dVar 0) (dCons (dK (.int 3)) dNil))) [.fz (.ref 0), .fz (.int g), .fz (.int dp), .un, .un] S = .ok (.int m) S1 := by
      simp -implicitDefEqProofs only [sqF_nx, sqF_ret, sqF_brk, sqF_ct, sqF_exc, sbF_ok, sbF_exc, ifF_t, ifF_f, dSeq_ap, dSkip_ap, dAsg_ap, dAsgO_ap, dEx_ap, dRet_ap, dRetN_ap, dIfS_ap, dBrk_ap, dCt_ap, dRaise_ap, dFz_ap, dFor_ap, forR_ok, forR_exc, forD_nil, dK_ap, cellV_fz, cellB_fz, cellB_ow, dVar_ap, dBor_ap, dOp2_ap, dOp1_ap, dAnd_ap, dOr_ap, dNot_ap, dNeg_ap, dIf_ap, andF_t, andF_f, orF_t, orF_f, notF_b, negF_i, iteF2_t, iteF2_f, dNil_ap, dCons_ap, seqF0, seqF1, seqF2, seqF3, seqF4, seqF5, dTup_ap, dLst_ap, dCall_ap, l2_add, l2_sub, l2_lt, l2_le, l2_gt, l2_ge, l2_eq, l2_ne, l2_tup20, l2_tup21, l1_abs, l1_int, l1_lenT, l1_lenL, l1_tupL, l1_tupT, l1_listS, l1_isI, l1_isB, l1_isT, dGcd_ap, gcdF_i, flo_ret, flo_nx, flo_exc, dSetN_ap, hasN0, chg0, setAt1, setAt2, setAt3, fin_some, rix0, rix1, rix2, rix3, pow1018, Nat.reduceSub, List.replicate, List.replicate_zero, bnd_ok, bnd_exc, List.getElem?_cons_zero, List.getElem?_cons_succ, List.set_cons_succ, List.set_cons_zero, Option.map_some, if_true, decide_true, decide_false, Bool.not_true, Bool.not_false, Int.reduceLT, Int.reduceLE, Int.reduceEq, Int.reduceSub, Int.reduceAdd, Int.reduceMul, Int.reduceNeg, if_false, hp]
      rw [e1]
    by_cases h0 : m = 0
    · subst h0
      obtain ⟨p, S', q1, q2, q3, q4⟩ := val_num (val := val (k + n + 5)) (by have := hn (k + n + 1); rwa [show k + n + 1 + 4 = k + n + 5 by omega] at this) d1 e
      exact ⟨p, S', q1, q2, by omega, q4⟩
    by_cases h3 : m < 3
    · obtain ⟨p, S', q1, q2, q3, q4⟩ := val_price (num := num (k + n + 5)) (val := val (k + n + 5)) (ht (k + n + 4)) d1 hg ho (by omega) e
      exact ⟨p, S', q1, q2, by omega, q4⟩
    · obtain ⟨p, S2, e2, p1, p2, d2⟩ := ih R S1 g (dp - 1) d1 hg ho (by omega)
      obtain ⟨q, S3, e3, q1, q2, d3⟩ := ih R S2 g (dp - 1) d2 hg ho (by omega)
      have go : ∀ w : W2, (∀ p q : Pt, p.isV g → q.isV g → (Pt.n2 w p q).isV g) → lift2 gIx (.tup [.str (PySem.Str.ofString "plus"), .str (PySem.Str.ofString "minus"), .str (PySem.Str.ofString "times"), .str (PySem.Str.ofString "least"), .str (PySem.Str.ofString "greatest")]) (.int (m - 3)) S1 = .ok (.str w.s) S1 →
          ∃ (p : Pt) (S' : Store), dDef 5 3 (valueD (take (k + n + 5)) (num (k + n + 5)) (val (k + n + 5))) [.ref 0, .int g, .int dp] S = .ok p.pv S' ∧ p.isV g ∧ p.hgt ≤ n + 1 + 1 ∧ Dr R S' := fun w hw hi => by
        refine ⟨.n2 w p q, S3, ?_, hw p q p1 q1, ?_, d3⟩
        · rw [def3]; unfold valueD
          rw [dSeq_ap, dAsg_ap]
          simp only [Nat.reduceSub, List.replicate, e]
          simp -implicitDefEqProofs only [sqF_nx, sqF_ret, sqF_brk, sqF_ct, sqF_exc, sbF_ok, sbF_exc, ifF_t, ifF_f, dSeq_ap, dSkip_ap, dAsg_ap, dAsgO_ap, dEx_ap, dRet_ap, dRetN_ap, dIfS_ap, dBrk_ap, dCt_ap, dRaise_ap, dFz_ap, dFor_ap, forR_ok, forR_exc, forD_nil, dK_ap, cellV_fz, cellB_fz, cellB_ow, dVar_ap, dBor_ap, dOp2_ap, dOp1_ap, dAnd_ap, dOr_ap, dNot_ap, dNeg_ap, dIf_ap, andF_t, andF_f, orF_t, orF_f, notF_b, negF_i, iteF2_t, iteF2_f, dNil_ap, dCons_ap, seqF0, seqF1, seqF2, seqF3, seqF4, seqF5, dTup_ap, dLst_ap, dCall_ap, l2_add, l2_sub, l2_lt, l2_le, l2_gt, l2_ge, l2_eq, l2_ne, l2_tup20, l2_tup21, l1_abs, l1_int, l1_lenT, l1_lenL, l1_tupL, l1_tupT, l1_listS, l1_isI, l1_isB, l1_isT, dGcd_ap, gcdF_i, flo_ret, flo_nx, flo_exc, dSetN_ap, hasN0, chg0, setAt1, setAt2, setAt3, fin_some, rix0, rix1, rix2, rix3, pow1018, Nat.reduceSub, List.replicate, List.replicate_zero, bnd_ok, bnd_exc, List.getElem?_cons_zero, List.getElem?_cons_succ, List.set_cons_succ, List.set_cons_zero, Option.map_some, if_true, decide_true, decide_false, Bool.not_true, Bool.not_false, Int.reduceLT, Int.reduceLE, Int.reduceEq, Int.reduceSub, Int.reduceAdd, Int.reduceMul, Int.reduceNeg, if_false, h0, h3]
          rw [hi]
          simp -implicitDefEqProofs only [sqF_nx, sqF_ret, sqF_brk, sqF_ct, sqF_exc, sbF_ok, sbF_exc, ifF_t, ifF_f, dSeq_ap, dSkip_ap, dAsg_ap, dAsgO_ap, dEx_ap, dRet_ap, dRetN_ap, dIfS_ap, dBrk_ap, dCt_ap, dRaise_ap, dFz_ap, dFor_ap, forR_ok, forR_exc, forD_nil, dK_ap, cellV_fz, cellB_fz, cellB_ow, dVar_ap, dBor_ap, dOp2_ap, dOp1_ap, dAnd_ap, dOr_ap, dNot_ap, dNeg_ap, dIf_ap, andF_t, andF_f, orF_t, orF_f, notF_b, negF_i, iteF2_t, iteF2_f, dNil_ap, dCons_ap, seqF0, seqF1, seqF2, seqF3, seqF4, seqF5, dTup_ap, dLst_ap, dCall_ap, l2_add, l2_sub, l2_lt, l2_le, l2_gt, l2_ge, l2_eq, l2_ne, l2_tup20, l2_tup21, l1_abs, l1_int, l1_lenT, l1_lenL, l1_tupL, l1_tupT, l1_listS, l1_isI, l1_isB, l1_isT, dGcd_ap, gcdF_i, flo_ret, flo_nx, flo_exc, dSetN_ap, hasN0, chg0, setAt1, setAt2, setAt3, fin_some, rix0, rix1, rix2, rix3, pow1018, Nat.reduceSub, List.replicate, List.replicate_zero, bnd_ok, bnd_exc, List.getElem?_cons_zero, List.getElem?_cons_succ, List.set_cons_succ, List.set_cons_zero, Option.map_some, if_true, decide_true, decide_false, Bool.not_true, Bool.not_false, Int.reduceLT, Int.reduceLE, Int.reduceEq, Int.reduceSub, Int.reduceAdd, Int.reduceMul, Int.reduceNeg, if_false]
          rw [e2]
          simp -implicitDefEqProofs only [sqF_nx, sqF_ret, sqF_brk, sqF_ct, sqF_exc, sbF_ok, sbF_exc, ifF_t, ifF_f, dSeq_ap, dSkip_ap, dAsg_ap, dAsgO_ap, dEx_ap, dRet_ap, dRetN_ap, dIfS_ap, dBrk_ap, dCt_ap, dRaise_ap, dFz_ap, dFor_ap, forR_ok, forR_exc, forD_nil, dK_ap, cellV_fz, cellB_fz, cellB_ow, dVar_ap, dBor_ap, dOp2_ap, dOp1_ap, dAnd_ap, dOr_ap, dNot_ap, dNeg_ap, dIf_ap, andF_t, andF_f, orF_t, orF_f, notF_b, negF_i, iteF2_t, iteF2_f, dNil_ap, dCons_ap, seqF0, seqF1, seqF2, seqF3, seqF4, seqF5, dTup_ap, dLst_ap, dCall_ap, l2_add, l2_sub, l2_lt, l2_le, l2_gt, l2_ge, l2_eq, l2_ne, l2_tup20, l2_tup21, l1_abs, l1_int, l1_lenT, l1_lenL, l1_tupL, l1_tupT, l1_listS, l1_isI, l1_isB, l1_isT, dGcd_ap, gcdF_i, flo_ret, flo_nx, flo_exc, dSetN_ap, hasN0, chg0, setAt1, setAt2, setAt3, fin_some, rix0, rix1, rix2, rix3, pow1018, Nat.reduceSub, List.replicate, List.replicate_zero, bnd_ok, bnd_exc, List.getElem?_cons_zero, List.getElem?_cons_succ, List.set_cons_succ, List.set_cons_zero, Option.map_some, if_true, decide_true, decide_false, Bool.not_true, Bool.not_false, Int.reduceLT, Int.reduceLE, Int.reduceEq, Int.reduceSub, Int.reduceAdd, Int.reduceMul, Int.reduceNeg, if_false]
          rw [e3]
          simp -implicitDefEqProofs only [sqF_nx, sqF_ret, sqF_brk, sqF_ct, sqF_exc, sbF_ok, sbF_exc, ifF_t, ifF_f, dSeq_ap, dSkip_ap, dAsg_ap, dAsgO_ap, dEx_ap, dRet_ap, dRetN_ap, dIfS_ap, dBrk_ap, dCt_ap, dRaise_ap, dFz_ap, dFor_ap, forR_ok, forR_exc, forD_nil, dK_ap, cellV_fz, cellB_fz, cellB_ow, dVar_ap, dBor_ap, dOp2_ap, dOp1_ap, dAnd_ap, dOr_ap, dNot_ap, dNeg_ap, dIf_ap, andF_t, andF_f, orF_t, orF_f, notF_b, negF_i, iteF2_t, iteF2_f, dNil_ap, dCons_ap, seqF0, seqF1, seqF2, seqF3, seqF4, seqF5, dTup_ap, dLst_ap, dCall_ap, l2_add, l2_sub, l2_lt, l2_le, l2_gt, l2_ge, l2_eq, l2_ne, l2_tup20, l2_tup21, l1_abs, l1_int, l1_lenT, l1_lenL, l1_tupL, l1_tupT, l1_listS, l1_isI, l1_isB, l1_isT, dGcd_ap, gcdF_i, flo_ret, flo_nx, flo_exc, dSetN_ap, hasN0, chg0, setAt1, setAt2, setAt3, fin_some, rix0, rix1, rix2, rix3, pow1018, Nat.reduceSub, List.replicate, List.replicate_zero, bnd_ok, bnd_exc, List.getElem?_cons_zero, List.getElem?_cons_succ, List.set_cons_succ, List.set_cons_zero, Option.map_some, if_true, decide_true, decide_false, Bool.not_true, Bool.not_false, Int.reduceLT, Int.reduceLE, Int.reduceEq, Int.reduceSub, Int.reduceAdd, Int.reduceMul, Int.reduceNeg, if_false]
          rfl
        · show max p.hgt q.hgt + 1 ≤ _
          omega
      have hm : m = 3 ∨ m = 4 ∨ m = 5 ∨ m = 6 ∨ m = 7 := by omega
      rcases hm with rfl | rfl | rfl | rfl | rfl
      · exact go .plus (fun _ _ a b => ⟨a, b⟩) rfl
      · exact go .minus (fun _ _ a b => ⟨a, b⟩) rfl
      · exact go .times (fun _ _ a b => ⟨a, b⟩) rfl
      · exact go .least (fun _ _ a b => ⟨a, b⟩) rfl
      · exact go .greatest (fun _ _ a b => ⟨a, b⟩) rfl
/-! ### conditions -/
def condD (take val cond : List PV → Store → Res PV) : Dns := (dSeq (dAsg 3 (dIf (dOp2 gGt (dBor 2) (dK (.int 0))) (dCall take (dCons (dVar 0) (dCons (dK (.int 6)) dNil))) (dCall take (dCons (dVar 0) (dCons (dK (.int 3)) dNil))))) (dSeq (dIfS (dOp2 gLt (dBor 3) (dK (.int 3))) (dSeq (dRet (dTup (dCons (dOp2 gIx (dTup (dCons (dK (.str (PySem.Str.ofString "less"))) (dCons (dK (.str (PySem.Str.ofString "less"))) (dCons (dK (.str (PySem.Str.ofString "same"))) dNil)))) (dBor 3)) (dCons (dCall val (dCons (dVar 0) (dCons (dVar 1) (dCons (dK (.int 1)) dNil)))) (dCons (dCall val (dCons (dVar 0) (dCons (dVar 1) (dCons (dK (.int 0)) dNil)))) dNil))))) dSkip) dSkip) (dSeq (dIfS (dOp2 gLt (dBor 3) (dK (.int 5))) (dSeq (dRet (dTup (dCons (dK (.str (PySem.Str.ofString "not"))) (dCons (dCall cond (dCons (dVar 0) (dCons (dVar 1) (dCons (dOp2 gSub (dBor 2) (dK (.int 1))) dNil)))) dNil)))) dSkip) dSkip) (dSeq (dRet (dTup (dCons (dK (.str (PySem.Str.ofString "and"))) (dCons (dCall cond (dCons (dVar 0) (dCons (dVar 1) (dCons (dOp2 gSub (dBor 2) (dK (.int 1))) dNil)))) (dCons (dCall cond (dCons (dVar 0) (dCons (dVar 1) (dCons (dOp2 gSub (dBor 2) (dK (.int 1))) dNil)))) dNil))))) dSkip))))
def CndOk (n : Nat) (f : List PV → Store → Res PV) : Prop := ∀ R S (g dp : Int), Dr R S → 0 < g → okI g = true → dp = n → ∃ (p : Pt) (S' : Store), f [.ref 0, .int g, .int dp] S = .ok p.pv S' ∧ p.isC g ∧ p.hgt ≤ n + 3 ∧ Dr R S'
theorem cond_leaf {take val cond : List PV → Store → Res PV} {R S : Store} {g dp : Int} (h1 : ValOk 1 val) (h0 : ValOk 0 val) {S1 : Store} (hd : Dr R S1) (hg : 0 < g) (ho : okI g = true) {m : Int} (hm : m = 0 ∨ m = 1 ∨ m = 2) (e : dIf (dOp2 gGt (dBor 2) (dK (.int 0))) (dCall take (dCons (dVar 0) (dCons (dK (.int 6)) dNil))) (dCall take (dCons (dVar 0) (dCons (dK (.int 3)) dNil))) [.fz (.ref 0), .fz (.int g), .fz (.int dp), .un] S = .ok (.int m) S1) :
    ∃ (p : Pt) (S' : Store), dDef 4 3 (condD take val cond) [.ref 0, .int g, .int dp] S = .ok p.pv S' ∧ p.isC g ∧ p.hgt ≤ 3 ∧ Dr R S' := by
  obtain ⟨p, S2, e2, p1, p2, d2⟩ := h1 R S1 g 1 hd hg ho rfl
  obtain ⟨q, S3, e3, q1, q2, d3⟩ := h0 R S2 g 0 d2 hg ho rfl
  have go : ∀ w : W2, (∀ p q : Pt, p.isV g → q.isV g → (Pt.n2 w p q).isC g) → lift2 gIx (.tup [.str (PySem.Str.ofString "less"), .str (PySem.Str.ofString "less"), .str (PySem.Str.ofString "same")]) (.int m) S1 = .ok (.str w.s) S1 →
      ∃ (p : Pt) (S' : Store), dDef 4 3 (condD take val cond) [.ref 0, .int g, .int dp] S = .ok p.pv S' ∧ p.isC g ∧ p.hgt ≤ 3 ∧ Dr R S' := fun w hw hi => by
    have h3 : m < 3 := by omega
    refine ⟨.n2 w p q, S3, ?_, hw p q p1 q1, ?_, d3⟩
    · rw [def3]; unfold condD
      rw [dSeq_ap, dAsg_ap]
      simp only [Nat.reduceSub, List.replicate, e]
      simp -implicitDefEqProofs only [sqF_nx, sqF_ret, sqF_brk, sqF_ct, sqF_exc, sbF_ok, sbF_exc, ifF_t, ifF_f, dSeq_ap, dSkip_ap, dAsg_ap, dAsgO_ap, dEx_ap, dRet_ap, dRetN_ap, dIfS_ap, dBrk_ap, dCt_ap, dRaise_ap, dFz_ap, dFor_ap, forR_ok, forR_exc, forD_nil, dK_ap, cellV_fz, cellB_fz, cellB_ow, dVar_ap, dBor_ap, dOp2_ap, dOp1_ap, dAnd_ap, dOr_ap, dNot_ap, dNeg_ap, dIf_ap, andF_t, andF_f, orF_t, orF_f, notF_b, negF_i, iteF2_t, iteF2_f, dNil_ap, dCons_ap, seqF0, seqF1, seqF2, seqF3, seqF4, seqF5, dTup_ap, dLst_ap, dCall_ap, l2_add, l2_sub, l2_lt, l2_le, l2_gt, l2_ge, l2_eq, l2_ne, l2_tup20, l2_tup21, l1_abs, l1_int, l1_lenT, l1_lenL, l1_tupL, l1_tupT, l1_listS, l1_isI, l1_isB, l1_isT, dGcd_ap, gcdF_i, flo_ret, flo_nx, flo_exc, dSetN_ap, hasN0, chg0, setAt1, setAt2, setAt3, fin_some, rix0, rix1, rix2, rix3, pow1018, Nat.reduceSub, List.replicate, List.replicate_zero, bnd_ok, bnd_exc, List.getElem?_cons_zero, List.getElem?_cons_succ, List.set_cons_succ, List.set_cons_zero, Option.map_some, if_true, decide_true, decide_false, Bool.not_true, Bool.not_false, Int.reduceLT, Int.reduceLE, Int.reduceEq, Int.reduceSub, Int.reduceAdd, Int.reduceMul, Int.reduceNeg, if_false, h3]
      rw [hi]
      simp -implicitDefEqProofs only [sqF_nx, sqF_ret, sqF_brk, sqF_ct, sqF_exc, sbF_ok, sbF_exc, ifF_t, ifF_f, dSeq_ap, dSkip_ap, dAsg_ap, dAsgO_ap, dEx_ap, dRet_ap, dRetN_ap, dIfS_ap, dBrk_ap, dCt_ap, dRaise_ap, dFz_ap, dFor_ap, forR_ok, forR_exc, forD_nil, dK_ap, cellV_fz, cellB_fz, cellB_ow, dVar_ap, dBor_ap, dOp2_ap, dOp1_ap, dAnd_ap, dOr_ap, dNot_ap, dNeg_ap, dIf_ap, andF_t, andF_f, orF_t, orF_f, notF_b, negF_i, iteF2_t, iteF2_f, dNil_ap, dCons_ap, seqF0, seqF1, seqF2, seqF3, seqF4, seqF5, dTup_ap, dLst_ap, dCall_ap, l2_add, l2_sub, l2_lt, l2_le, l2_gt, l2_ge, l2_eq, l2_ne, l2_tup20, l2_tup21, l1_abs, l1_int, l1_lenT, l1_lenL, l1_tupL, l1_tupT, l1_listS, l1_isI, l1_isB, l1_isT, dGcd_ap, gcdF_i, flo_ret, flo_nx, flo_exc, dSetN_ap, hasN0, chg0, setAt1, setAt2, setAt3, fin_some, rix0, rix1, rix2, rix3, pow1018, Nat.reduceSub, List.replicate, List.replicate_zero, bnd_ok, bnd_exc, List.getElem?_cons_zero, List.getElem?_cons_succ, List.set_cons_succ, List.set_cons_zero, Option.map_some, if_true, decide_true, decide_false, Bool.not_true, Bool.not_false, Int.reduceLT, Int.reduceLE, Int.reduceEq, Int.reduceSub, Int.reduceAdd, Int.reduceMul, Int.reduceNeg, if_false]
      rw [e2]
      simp -implicitDefEqProofs only [sqF_nx, sqF_ret, sqF_brk, sqF_ct, sqF_exc, sbF_ok, sbF_exc, ifF_t, ifF_f, dSeq_ap, dSkip_ap, dAsg_ap, dAsgO_ap, dEx_ap, dRet_ap, dRetN_ap, dIfS_ap, dBrk_ap, dCt_ap, dRaise_ap, dFz_ap, dFor_ap, forR_ok, forR_exc, forD_nil, dK_ap, cellV_fz, cellB_fz, cellB_ow, dVar_ap, dBor_ap, dOp2_ap, dOp1_ap, dAnd_ap, dOr_ap, dNot_ap, dNeg_ap, dIf_ap, andF_t, andF_f, orF_t, orF_f, notF_b, negF_i, iteF2_t, iteF2_f, dNil_ap, dCons_ap, seqF0, seqF1, seqF2, seqF3, seqF4, seqF5, dTup_ap, dLst_ap, dCall_ap, l2_add, l2_sub, l2_lt, l2_le, l2_gt, l2_ge, l2_eq, l2_ne, l2_tup20, l2_tup21, l1_abs, l1_int, l1_lenT, l1_lenL, l1_tupL, l1_tupT, l1_listS, l1_isI, l1_isB, l1_isT, dGcd_ap, gcdF_i, flo_ret, flo_nx, flo_exc, dSetN_ap, hasN0, chg0, setAt1, setAt2, setAt3, fin_some, rix0, rix1, rix2, rix3, pow1018, Nat.reduceSub, List.replicate, List.replicate_zero, bnd_ok, bnd_exc, List.getElem?_cons_zero, List.getElem?_cons_succ, List.set_cons_succ, List.set_cons_zero, Option.map_some, if_true, decide_true, decide_false, Bool.not_true, Bool.not_false, Int.reduceLT, Int.reduceLE, Int.reduceEq, Int.reduceSub, Int.reduceAdd, Int.reduceMul, Int.reduceNeg, if_false]
      rw [e3]
      simp -implicitDefEqProofs only [sqF_nx, sqF_ret, sqF_brk, sqF_ct, sqF_exc, sbF_ok, sbF_exc, ifF_t, ifF_f, dSeq_ap, dSkip_ap, dAsg_ap, dAsgO_ap, dEx_ap, dRet_ap, dRetN_ap, dIfS_ap, dBrk_ap, dCt_ap, dRaise_ap, dFz_ap, dFor_ap, forR_ok, forR_exc, forD_nil, dK_ap, cellV_fz, cellB_fz, cellB_ow, dVar_ap, dBor_ap, dOp2_ap, dOp1_ap, dAnd_ap, dOr_ap, dNot_ap, dNeg_ap, dIf_ap, andF_t, andF_f, orF_t, orF_f, notF_b, negF_i, iteF2_t, iteF2_f, dNil_ap, dCons_ap, seqF0, seqF1, seqF2, seqF3, seqF4, seqF5, dTup_ap, dLst_ap, dCall_ap, l2_add, l2_sub, l2_lt, l2_le, l2_gt, l2_ge, l2_eq, l2_ne, l2_tup20, l2_tup21, l1_abs, l1_int, l1_lenT, l1_lenL, l1_tupL, l1_tupT, l1_listS, l1_isI, l1_isB, l1_isT, dGcd_ap, gcdF_i, flo_ret, flo_nx, flo_exc, dSetN_ap, hasN0, chg0, setAt1, setAt2, setAt3, fin_some, rix0, rix1, rix2, rix3, pow1018, Nat.reduceSub, List.replicate, List.replicate_zero, bnd_ok, bnd_exc, List.getElem?_cons_zero, List.getElem?_cons_succ, List.set_cons_succ, List.set_cons_zero, Option.map_some, if_true, decide_true, decide_false, Bool.not_true, Bool.not_false, Int.reduceLT, Int.reduceLE, Int.reduceEq, Int.reduceSub, Int.reduceAdd, Int.reduceMul, Int.reduceNeg, if_false]
      rfl
    · show max p.hgt q.hgt + 1 ≤ _
      omega
  rcases hm with rfl | rfl | rfl
  · exact go .less (fun _ _ a b => ⟨a, b⟩) rfl
  · exact go .less (fun _ _ a b => ⟨a, b⟩) rfl
  · exact go .same (fun _ _ a b => ⟨a, b⟩) rfl
theorem cond_ok {take val cond : Nat → List PV → Store → Res PV} (hc : ∀ k, cond (k + 1) = dDef 4 3 (condD (take k) (val k) (cond k))) (ht : ∀ k, TakeOk (take (k + 1))) (hv : ∀ n k, ValOk n (val (k + n + 5))) : ∀ (n k : Nat), CndOk n (cond (k + n + 7))
  | 0, k => fun R S g dp hd hg ho hdp => by
    rw [show k + 0 + 7 = k + 6 + 1 from rfl, hc]
    obtain ⟨m, S1, e1, h1, h2, d1⟩ := ht (k + 5) R S 3 hd (by decide) (by decide +kernel)
    have hp : ¬ (0 < dp) := by omega
    have e : dIf (dOp2 gGt (dBor 2) (dK (.int 0))) (dCall (take (k + 6)) (dCons (dVar 0) (dCons (dK (.int 6)) dNil))) (dCall (take (k + 6)) (dCons (dVar 0) (dCons (dK (.int 3)) dNil))) [.fz (.ref 0), .fz (.int g), .fz (.int dp), .un] S = .ok (.int m) S1 := by
      simp -implicitDefEqProofs only [sqF_nx, sqF_ret, sqF_brk, sqF_ct, sqF_exc, sbF_ok, sbF_exc, ifF_t, ifF_f, dSeq_ap, dSkip_ap, dAsg_ap, dAsgO_ap, dEx_ap, dRet_ap, dRetN_ap, dIfS_ap, dBrk_ap, dCt_ap, dRaise_ap, dFz_ap, dFor_ap, forR_ok, forR_exc, forD_nil, dK_ap, cellV_fz, cellB_fz, cellB_ow, dVar_ap, dBor_ap, dOp2_ap, dOp1_ap, dAnd_ap, dOr_ap, dNot_ap, dNeg_ap, dIf_ap, andF_t, andF_f, orF_t, orF_f, notF_b, negF_i, iteF2_t, iteF2_f, dNil_ap, dCons_ap, seqF0, seqF1, seqF2, seqF3, seqF4, seqF5, dTup_ap, dLst_ap, dCall_ap, l2_add, l2_sub, l2_lt, l2_le, l2_gt, l2_ge, l2_eq, l2_ne, l2_tup20, l2_tup21, l1_abs, l1_int, l1_lenT, l1_lenL, l1_tupL, l1_tupT, l1_listS, l1_isI, l1_isB, l1_isT, dGcd_ap, gcdF_i, flo_ret, flo_nx, flo_exc, dSetN_ap, hasN0, chg0, setAt1, setAt2, setAt3, fin_some, rix0, rix1, rix2, rix3, pow1018, Nat.reduceSub, List.replicate, List.replicate_zero, bnd_ok, bnd_exc, List.getElem?_cons_zero, List.getElem?_cons_succ, List.set_cons_succ, List.set_cons_zero, Option.map_some, if_true, decide_true, decide_false, Bool.not_true, Bool.not_false, Int.reduceLT, Int.reduceLE, Int.reduceEq, Int.reduceSub, Int.reduceAdd, Int.reduceMul, Int.reduceNeg, if_false, hp]
      rw [e1]
    exact cond_leaf (hv 1 k) (hv 0 (k + 1)) d1 hg ho (by omega) e
  | n + 1, k => fun R S g dp hd hg ho hdp => by
    rw [show k + (n + 1) + 7 = k + n + 7 + 1 by omega, hc]
    have ih := cond_ok hc ht hv n k
    obtain ⟨m, S1, e1, h1, h2, d1⟩ := ht (k + n + 6) R S 6 hd (by decide) (by decide +kernel)
    have hp : (0 < dp) := by omega
    have e : dIf (dOp2 gGt (dBor 2) (dK (.int 0))) (dCall (take (k + n + 7)) (dCons (dVar 0) (dCons (dK (.int 6)) dNil))) (dCall (take (k + n + 7)) (dCons (dVar 0) (dCons (dK (.int 3)) dNil))) [.fz (.ref 0), .fz (.int g), .fz (.int dp), .un] S = .ok (.int m) S1 := by
      simp -implicitDefEqProofs only [sqF_nx, sqF_ret, sqF_brk, sqF_ct, sqF_exc, sbF_ok, sbF_exc, ifF_t, ifF_f, dSeq_ap, dSkip_ap, dAsg_ap, dAsgO_ap, dEx_ap, dRet_ap, dRetN_ap, dIfS_ap, dBrk_ap, dCt_ap, dRaise_ap, dFz_ap, dFor_ap, forR_ok, forR_exc, forD_nil, dK_ap, cellV_fz, cellB_fz, cellB_ow, dVar_ap, dBor_ap, dOp2_ap, dOp1_ap, dAnd_ap, dOr_ap, dNot_ap, dNeg_ap, dIf_ap, andF_t, andF_f, orF_t, orF_f, notF_b, negF_i, iteF2_t, iteF2_f, dNil_ap, dCons_ap, seqF0, seqF1, seqF2, seqF3, seqF4, seqF5, dTup_ap, dLst_ap, dCall_ap, l2_add, l2_sub, l2_lt, l2_le, l2_gt, l2_ge, l2_eq, l2_ne, l2_tup20, l2_tup21, l1_abs, l1_int, l1_lenT, l1_lenL, l1_tupL, l1_tupT, l1_listS, l1_isI, l1_isB, l1_isT, dGcd_ap, gcdF_i, flo_ret, flo_nx, flo_exc, dSetN_ap, hasN0, chg0, setAt1, setAt2, setAt3, fin_some, rix0, rix1, rix2, rix3, pow1018, Nat.reduceSub, List.replicate, List.replicate_zero, bnd_ok, bnd_exc, List.getElem?_cons_zero, List.getElem?_cons_succ, List.set_cons_succ, List.set_cons_zero, Option.map_some, if_true, decide_true, decide_false, Bool.not_true, Bool.not_false, Int.reduceLT, Int.reduceLE, Int.reduceEq, Int.reduceSub, Int.reduceAdd, Int.reduceMul, Int.reduceNeg, if_false, hp]
      rw [e1]
    by_cases h3 : m < 3
    · obtain ⟨p, S', q1, q2, q3, q4⟩ := cond_leaf (cond := cond (k + n + 7)) (val := val (k + n + 7)) (by have := hv 1 (k + n + 1); rwa [show k + n + 1 + 1 + 5 = k + n + 7 by omega] at this) (by have := hv 0 (k + n + 2); rwa [show k + n + 2 + 0 + 5 = k + n + 7 by omega] at this) d1 hg ho (by omega) e
      exact ⟨p, S', q1, q2, by omega, q4⟩
    obtain ⟨p, S2, e2, p1, p2, d2⟩ := ih R S1 g (dp - 1) d1 hg ho (by omega)
    by_cases h5 : m < 5
    · refine ⟨.n1 .not_ p, S2, ?_, p1, ?_, d2⟩
      · rw [def3]; unfold condD
        rw [dSeq_ap, dAsg_ap]
        simp only [Nat.reduceSub, List.replicate, e]
        simp -implicitDefEqProofs only [sqF_nx, sqF_ret, sqF_brk, sqF_ct, sqF_exc, sbF_ok, sbF_exc, ifF_t, ifF_f, dSeq_ap, dSkip_ap, dAsg_ap, dAsgO_ap, dEx_ap, dRet_ap, dRetN_ap, dIfS_ap, dBrk_ap, dCt_ap, dRaise_ap, dFz_ap, dFor_ap, forR_ok, forR_exc, forD_nil, dK_ap, cellV_fz, cellB_fz, cellB_ow, dVar_ap, dBor_ap, dOp2_ap, dOp1_ap, dAnd_ap, dOr_ap, dNot_ap, dNeg_ap, dIf_ap, andF_t, andF_f, orF_t, orF_f, notF_b, negF_i, iteF2_t, iteF2_f, dNil_ap, dCons_ap, seqF0, seqF1, seqF2, seqF3, seqF4, seqF5, dTup_ap, dLst_ap, dCall_ap, l2_add, l2_sub, l2_lt, l2_le, l2_gt, l2_ge, l2_eq, l2_ne, l2_tup20, l2_tup21, l1_abs, l1_int, l1_lenT, l1_lenL, l1_tupL, l1_tupT, l1_listS, l1_isI, l1_isB, l1_isT, dGcd_ap, gcdF_i, flo_ret, flo_nx, flo_exc, dSetN_ap, hasN0, chg0, setAt1, setAt2, setAt3, fin_some, rix0, rix1, rix2, rix3, pow1018, Nat.reduceSub, List.replicate, List.replicate_zero, bnd_ok, bnd_exc, List.getElem?_cons_zero, List.getElem?_cons_succ, List.set_cons_succ, List.set_cons_zero, Option.map_some, if_true, decide_true, decide_false, Bool.not_true, Bool.not_false, Int.reduceLT, Int.reduceLE, Int.reduceEq, Int.reduceSub, Int.reduceAdd, Int.reduceMul, Int.reduceNeg, if_false, h3, h5]
        rw [e2]
        simp -implicitDefEqProofs only [sqF_nx, sqF_ret, sqF_brk, sqF_ct, sqF_exc, sbF_ok, sbF_exc, ifF_t, ifF_f, dSeq_ap, dSkip_ap, dAsg_ap, dAsgO_ap, dEx_ap, dRet_ap, dRetN_ap, dIfS_ap, dBrk_ap, dCt_ap, dRaise_ap, dFz_ap, dFor_ap, forR_ok, forR_exc, forD_nil, dK_ap, cellV_fz, cellB_fz, cellB_ow, dVar_ap, dBor_ap, dOp2_ap, dOp1_ap, dAnd_ap, dOr_ap, dNot_ap, dNeg_ap, dIf_ap, andF_t, andF_f, orF_t, orF_f, notF_b, negF_i, iteF2_t, iteF2_f, dNil_ap, dCons_ap, seqF0, seqF1, seqF2, seqF3, seqF4, seqF5, dTup_ap, dLst_ap, dCall_ap, l2_add, l2_sub, l2_lt, l2_le, l2_gt, l2_ge, l2_eq, l2_ne, l2_tup20, l2_tup21, l1_abs, l1_int, l1_lenT, l1_lenL, l1_tupL, l1_tupT, l1_listS, l1_isI, l1_isB, l1_isT, dGcd_ap, gcdF_i, flo_ret, flo_nx, flo_exc, dSetN_ap, hasN0, chg0, setAt1, setAt2, setAt3, fin_some, rix0, rix1, rix2, rix3, pow1018, Nat.reduceSub, List.replicate, List.replicate_zero, bnd_ok, bnd_exc, List.getElem?_cons_zero, List.getElem?_cons_succ, List.set_cons_succ, List.set_cons_zero, Option.map_some, if_true, decide_true, decide_false, Bool.not_true, Bool.not_false, Int.reduceLT, Int.reduceLE, Int.reduceEq, Int.reduceSub, Int.reduceAdd, Int.reduceMul, Int.reduceNeg, if_false]
        rfl
      · show p.hgt + 1 ≤ _
        omega
    · obtain ⟨q, S3, e3, q1, q2, d3⟩ := ih R S2 g (dp - 1) d2 hg ho (by omega)
      refine ⟨.n2 .and_ p q, S3, ?_, ⟨p1, q1⟩, ?_, d3⟩
      · rw [def3]; unfold condD
        rw [dSeq_ap, dAsg_ap]
        simp only [Nat.reduceSub, List.replicate, e]
        simp -implicitDefEqProofs only [sqF_nx, sqF_ret, sqF_brk, sqF_ct, sqF_exc, sbF_ok, sbF_exc, ifF_t, ifF_f, dSeq_ap, dSkip_ap, dAsg_ap, dAsgO_ap, dEx_ap, dRet_ap, dRetN_ap, dIfS_ap, dBrk_ap, dCt_ap, dRaise_ap, dFz_ap, dFor_ap, forR_ok, forR_exc, forD_nil, dK_ap, cellV_fz, cellB_fz, cellB_ow, dVar_ap, dBor_ap, dOp2_ap, dOp1_ap, dAnd_ap, dOr_ap, dNot_ap, dNeg_ap, dIf_ap, andF_t, andF_f, orF_t, orF_f, notF_b, negF_i, iteF2_t, iteF2_f, dNil_ap, dCons_ap, seqF0, seqF1, seqF2, seqF3, seqF4, seqF5, dTup_ap, dLst_ap, dCall_ap, l2_add, l2_sub, l2_lt, l2_le, l2_gt, l2_ge, l2_eq, l2_ne, l2_tup20, l2_tup21, l1_abs, l1_int, l1_lenT, l1_lenL, l1_tupL, l1_tupT, l1_listS, l1_isI, l1_isB, l1_isT, dGcd_ap, gcdF_i, flo_ret, flo_nx, flo_exc, dSetN_ap, hasN0, chg0, setAt1, setAt2, setAt3, fin_some, rix0, rix1, rix2, rix3, pow1018, Nat.reduceSub, List.replicate, List.replicate_zero, bnd_ok, bnd_exc, List.getElem?_cons_zero, List.getElem?_cons_succ, List.set_cons_succ, List.set_cons_zero, Option.map_some, if_true, decide_true, decide_false, Bool.not_true, Bool.not_false, Int.reduceLT, Int.reduceLE, Int.reduceEq, Int.reduceSub, Int.reduceAdd, Int.reduceMul, Int.reduceNeg, if_false, h3, h5]
        rw [e2]
        simp -implicitDefEqProofs only [sqF_nx, sqF_ret, sqF_brk, sqF_ct, sqF_exc, sbF_ok, sbF_exc, ifF_t, ifF_f, dSeq_ap, dSkip_ap, dAsg_ap, dAsgO_ap, dEx_ap, dRet_ap, dRetN_ap, dIfS_ap, dBrk_ap, dCt_ap, dRaise_ap, dFz_ap, dFor_ap, forR_ok, forR_exc, forD_nil, dK_ap, cellV_fz, cellB_fz, cellB_ow, dVar_ap, dBor_ap, dOp2_ap, dOp1_ap, dAnd_ap, dOr_ap, dNot_ap, dNeg_ap, dIf_ap, andF_t, andF_f, orF_t, orF_f, notF_b, negF_i, iteF2_t, iteF2_f, dNil_ap, dCons_ap, seqF0, seqF1, seqF2, seqF3, seqF4, seqF5, dTup_ap, dLst_ap, dCall_ap, l2_add, l2_sub, l2_lt, l2_le, l2_gt, l2_ge, l2_eq, l2_ne, l2_tup20, l2_tup21, l1_abs, l1_int, l1_lenT, l1_lenL, l1_tupL, l1_tupT, l1_listS, l1_isI, l1_isB, l1_isT, dGcd_ap, gcdF_i, flo_ret, flo_nx, flo_exc, dSetN_ap, hasN0, chg0, setAt1, setAt2, setAt3, fin_some, rix0, rix1, rix2, rix3, pow1018, Nat.reduceSub, List.replicate, List.replicate_zero, bnd_ok, bnd_exc, List.getElem?_cons_zero, List.getElem?_cons_succ, List.set_cons_succ, List.set_cons_zero, Option.map_some, if_true, decide_true, decide_false, Bool.not_true, Bool.not_false, Int.reduceLT, Int.reduceLE, Int.reduceEq, Int.reduceSub, Int.reduceAdd, Int.reduceMul, Int.reduceNeg, if_false]
        rw [e3]
        simp -implicitDefEqProofs only [sqF_nx, sqF_ret, sqF_brk, sqF_ct, sqF_exc, sbF_ok, sbF_exc, ifF_t, ifF_f, dSeq_ap, dSkip_ap, dAsg_ap, dAsgO_ap, dEx_ap, dRet_ap, dRetN_ap, dIfS_ap, dBrk_ap, dCt_ap, dRaise_ap, dFz_ap, dFor_ap, forR_ok, forR_exc, forD_nil, dK_ap, cellV_fz, cellB_fz, cellB_ow, dVar_ap, dBor_ap, dOp2_ap, dOp1_ap, dAnd_ap, dOr_ap, dNot_ap, dNeg_ap, dIf_ap, andF_t, andF_f, orF_t, orF_f, notF_b, negF_i, iteF2_t, iteF2_f, dNil_ap, dCons_ap, seqF0, seqF1, seqF2, seqF3, seqF4, seqF5, dTup_ap, dLst_ap, dCall_ap, l2_add, l2_sub, l2_lt, l2_le, l2_gt, l2_ge, l2_eq, l2_ne, l2_tup20, l2_tup21, l1_abs, l1_int, l1_lenT, l1_lenL, l1_tupL, l1_tupT, l1_listS, l1_isI, l1_isB, l1_isT, dGcd_ap, gcdF_i, flo_ret, flo_nx, flo_exc, dSetN_ap, hasN0, chg0, setAt1, setAt2, setAt3, fin_some, rix0, rix1, rix2, rix3, pow1018, Nat.reduceSub, List.replicate, List.replicate_zero, bnd_ok, bnd_exc, List.getElem?_cons_zero, List.getElem?_cons_succ, List.set_cons_succ, List.set_cons_zero, Option.map_some, if_true, decide_true, decide_false, Bool.not_true, Bool.not_false, Int.reduceLT, Int.reduceLE, Int.reduceEq, Int.reduceSub, Int.reduceAdd, Int.reduceMul, Int.reduceNeg, if_false]
        rfl
      · show max p.hgt q.hgt + 1 ≤ _
        omega
/-! ### contracts -/
def conD (take num val cond con : List PV → Store → Res PV) : Dns := (dSeq (dAsg 4 (dCall take (dCons (dVar 0) (dCons (dK (.int 15)) dNil)))) (dSeq (dIfS (dOr (dOp2 gEq (dBor 2) (dK (.int 0))) (dOp2 gLt (dBor 4) (dK (.int 2)))) (dSeq (dRet (dIf (dOp2 gEq (dBor 4) (dK (.int 0))) (dTup (dCons (dK (.str (PySem.Str.ofString "nothing"))) dNil)) (dTup (dCons (dK (.str (PySem.Str.ofString "one"))) (dCons (dCall take (dCons (dVar 0) (dCons (dVar 1) dNil))) dNil))))) dSkip) dSkip) (dSeq (dIfS (dOp2 gLt (dBor 4) (dK (.int 5))) (dSeq (dRet (dTup (dCons (dK (.str (PySem.Str.ofString "scale"))) (dCons (dCall val (dCons (dVar 0) (dCons (dVar 1) (dCons (dK (.int 1)) dNil)))) (dCons (dCall con (dCons (dVar 0) (dCons (dVar 1) (dCons (dOp2 gSub (dBor 2) (dK (.int 1))) (dCons (dVar 3) dNil))))) dNil))))) dSkip) dSkip) (dSeq (dIfS (dOp2 gLt (dBor 4) (dK (.int 7))) (dSeq (dRet (dTup (dCons (dK (.str (PySem.Str.ofString "both"))) (dCons (dCall con (dCons (dVar 0) (dCons (dVar 1) (dCons (dOp2 gSub (dBor 2) (dK (.int 1))) (dCons (dVar 3) dNil))))) (dCons (dCall con (dCons (dVar 0) (dCons (dVar 1) (dCons (dOp2 gSub (dBor 2) (dK (.int 1))) (dCons (dK (.int 0)) dNil))))) dNil))))) dSkip) dSkip) (dSeq (dIfS (dOp2 gEq (dBor 4) (dK (.int 7))) (dSeq (dRet (dTup (dCons (dK (.str (PySem.Str.ofString "give"))) (dCons (dCall con (dCons (dVar 0) (dCons (dVar 1) (dCons (dOp2 gSub (dBor 2) (dK (.int 1))) (dCons (dVar 3) dNil))))) dNil)))) dSkip) dSkip) (dSeq (dIfS (dOp2 gEq (dBor 4) (dK (.int 8))) (dSeq (dRet (dTup (dCons (dK (.str (PySem.Str.ofString "at"))) (dCons (dCall take (dCons (dVar 0) (dCons (dK (.int 4)) dNil))) (dCons (dCall con (dCons (dVar 0) (dCons (dVar 1) (dCons (dOp2 gSub (dBor 2) (dK (.int 1))) (dCons (dVar 3) dNil))))) dNil))))) dSkip) dSkip) (dSeq (dIfS (dOp2 gEq (dBor 4) (dK (.int 9))) (dSeq (dRet (dTup (dCons (dK (.str (PySem.Str.ofString "when"))) (dCons (dCall cond (dCons (dVar 0) (dCons (dVar 1) (dCons (dK (.int 1)) dNil)))) (dCons (dCall con (dCons (dVar 0) (dCons (dVar 1) (dCons (dOp2 gSub (dBor 2) (dK (.int 1))) (dCons (dVar 3) dNil))))) dNil))))) dSkip) dSkip) (dSeq (dIfS (dOp2 gEq (dBor 4) (dK (.int 10))) (dSeq (dRet (dTup (dCons (dK (.str (PySem.Str.ofString "until"))) (dCons (dCall cond (dCons (dVar 0) (dCons (dVar 1) (dCons (dK (.int 1)) dNil)))) (dCons (dCall con (dCons (dVar 0) (dCons (dVar 1) (dCons (dOp2 gSub (dBor 2) (dK (.int 1))) (dCons (dVar 3) dNil))))) dNil))))) dSkip) dSkip) (dSeq (dIfS (dOp2 gEq (dBor 4) (dK (.int 11))) (dSeq (dRet (dTup (dCons (dK (.str (PySem.Str.ofString "later"))) (dCons (dCall con (dCons (dVar 0) (dCons (dVar 1) (dCons (dOp2 gSub (dBor 2) (dK (.int 1))) (dCons (dVar 3) dNil))))) dNil)))) dSkip) dSkip) (dSeq (dIfS (dOp2 gEq (dBor 3) (dK (.int 0))) (dSeq (dRet (dTup (dCons (dK (.str (PySem.Str.ofString "scale"))) (dCons (dCall num (dCons (dVar 0) dNil)) (dCons (dTup (dCons (dK (.str (PySem.Str.ofString "one"))) (dCons (dCall take (dCons (dVar 0) (dCons (dVar 1) dNil))) dNil))) dNil))))) dSkip) dSkip) (dSeq (dIfS (dOp2 gLt (dBor 4) (dK (.int 14))) (dSeq (dRet (dTup (dCons (dK (.str (PySem.Str.ofString "or"))) (dCons (dCall con (dCons (dVar 0) (dCons (dVar 1) (dCons (dOp2 gSub (dBor 2) (dK (.int 1))) (dCons (dOp2 gSub (dBor 3) (dK (.int 1))) dNil))))) (dCons (dCall con (dCons (dVar 0) (dCons (dVar 1) (dCons (dOp2 gSub (dBor 2) (dK (.int 1))) (dCons (dK (.int 0)) dNil))))) dNil))))) dSkip) dSkip) (dSeq (dRet (dTup (dCons (dK (.str (PySem.Str.ofString "early"))) (dCons (dCall take (dCons (dVar 0) (dCons (dK (.int 3)) dNil))) (dCons (dCall con (dCons (dVar 0) (dCons (dVar 1) (dCons (dOp2 gSub (dBor 2) (dK (.int 1))) (dCons (dK (.int 0)) dNil))))) dNil))))) dSkip))))))))))))
def ConOk (n : Nat) (f : List PV → Store → Res PV) : Prop := ∀ R S (g dp asks : Int), Dr R S → 0 < g → okI g = true → dp = n → 0 ≤ asks → ∃ (p : Pt) (S' : Store), f [.ref 0, .int g, .int dp, .int asks] S = .ok p.pv S' ∧ p.isK g ∧ p.hgt ≤ n + 5 ∧ Dr R S'
theorem con_ok {take num val cond con : Nat → List PV → Store → Res PV} (hk : ∀ k, con (k + 1) = dDef 5 4 (conD (take k) (num k) (val k) (cond k) (con k))) (ht : ∀ k, TakeOk (take (k + 1))) (hn : ∀ k, NumK (num (k + 4))) (hv : ∀ n k, ValOk n (val (k + n + 5))) (hc : ∀ n k, CndOk n (cond (k + n + 7))) : ∀ (n k : Nat), ConOk n (con (k + n + 9))
  | 0, k => fun R S g dp asks hd hg ho hdp ha => by
    rw [show k + 0 + 9 = k + 8 + 1 from rfl, hk]
    obtain ⟨m, S1, e1, h1, h2, d1⟩ := ht (k + 7) R S 15 hd (by decide) (by decide +kernel)
    have hp : dp = 0 := by omega
    by_cases h0 : m = 0
    · refine ⟨.nothing, S1, ?_, trivial, by decide, d1⟩
      rw [def4]; unfold conD
      simp -implicitDefEqProofs only [sqF_nx, sqF_ret, sqF_brk, sqF_ct, sqF_exc, sbF_ok, sbF_exc, ifF_t, ifF_f, dSeq_ap, dSkip_ap, dAsg_ap, dAsgO_ap, dEx_ap, dRet_ap, dRetN_ap, dIfS_ap, dBrk_ap, dCt_ap, dRaise_ap, dFz_ap, dFor_ap, forR_ok, forR_exc, forD_nil, dK_ap, cellV_fz, cellB_fz, cellB_ow, dVar_ap, dBor_ap, dOp2_ap, dOp1_ap, dAnd_ap, dOr_ap, dNot_ap, dNeg_ap, dIf_ap, andF_t, andF_f, orF_t, orF_f, notF_b, negF_i, iteF2_t, iteF2_f, dNil_ap, dCons_ap, seqF0, seqF1, seqF2, seqF3, seqF4, seqF5, dTup_ap, dLst_ap, dCall_ap, l2_add, l2_sub, l2_lt, l2_le, l2_gt, l2_ge, l2_eq, l2_ne, l2_tup20, l2_tup21, l1_abs, l1_int, l1_lenT, l1_lenL, l1_tupL, l1_tupT, l1_listS, l1_isI, l1_isB, l1_isT, dGcd_ap, gcdF_i, flo_ret, flo_nx, flo_exc, dSetN_ap, hasN0, chg0, setAt1, setAt2, setAt3, fin_some, rix0, rix1, rix2, rix3, pow1018, Nat.reduceSub, List.replicate, List.replicate_zero, bnd_ok, bnd_exc, List.getElem?_cons_zero, List.getElem?_cons_succ, List.set_cons_succ, List.set_cons_zero, Option.map_some, if_true, decide_true, decide_false, Bool.not_true, Bool.not_false, Int.reduceLT, Int.reduceLE, Int.reduceEq, Int.reduceSub, Int.reduceAdd, Int.reduceMul, Int.reduceNeg, if_false]
      rw [e1]
      simp -implicitDefEqProofs only [sqF_nx, sqF_ret, sqF_brk, sqF_ct, sqF_exc, sbF_ok, sbF_exc, ifF_t, ifF_f, dSeq_ap, dSkip_ap, dAsg_ap, dAsgO_ap, dEx_ap, dRet_ap, dRetN_ap, dIfS_ap, dBrk_ap, dCt_ap, dRaise_ap, dFz_ap, dFor_ap, forR_ok, forR_exc, forD_nil, dK_ap, cellV_fz, cellB_fz, cellB_ow, dVar_ap, dBor_ap, dOp2_ap, dOp1_ap, dAnd_ap, dOr_ap, dNot_ap, dNeg_ap, dIf_ap, andF_t, andF_f, orF_t, orF_f, notF_b, negF_i, iteF2_t, iteF2_f, dNil_ap, dCons_ap, seqF0, seqF1, seqF2, seqF3, seqF4, seqF5, dTup_ap, dLst_ap, dCall_ap, l2_add, l2_sub, l2_lt, l2_le, l2_gt, l2_ge, l2_eq, l2_ne, l2_tup20, l2_tup21, l1_abs, l1_int, l1_lenT, l1_lenL, l1_tupL, l1_tupT, l1_listS, l1_isI, l1_isB, l1_isT, dGcd_ap, gcdF_i, flo_ret, flo_nx, flo_exc, dSetN_ap, hasN0, chg0, setAt1, setAt2, setAt3, fin_some, rix0, rix1, rix2, rix3, pow1018, Nat.reduceSub, List.replicate, List.replicate_zero, bnd_ok, bnd_exc, List.getElem?_cons_zero, List.getElem?_cons_succ, List.set_cons_succ, List.set_cons_zero, Option.map_some, if_true, decide_true, decide_false, Bool.not_true, Bool.not_false, Int.reduceLT, Int.reduceLE, Int.reduceEq, Int.reduceSub, Int.reduceAdd, Int.reduceMul, Int.reduceNeg, if_false, hp, h0]
      rfl
    · obtain ⟨x, S2, e2, x1, x2, d2⟩ := ht (k + 7) R S1 g d1 hg ho
      refine ⟨.price .one x, S2, ?_, ⟨x1, x2⟩, by show 1 ≤ _; omega, d2⟩
      rw [def4]; unfold conD
      simp -implicitDefEqProofs only [sqF_nx, sqF_ret, sqF_brk, sqF_ct, sqF_exc, sbF_ok, sbF_exc, ifF_t, ifF_f, dSeq_ap, dSkip_ap, dAsg_ap, dAsgO_ap, dEx_ap, dRet_ap, dRetN_ap, dIfS_ap, dBrk_ap, dCt_ap, dRaise_ap, dFz_ap, dFor_ap, forR_ok, forR_exc, forD_nil, dK_ap, cellV_fz, cellB_fz, cellB_ow, dVar_ap, dBor_ap, dOp2_ap, dOp1_ap, dAnd_ap, dOr_ap, dNot_ap, dNeg_ap, dIf_ap, andF_t, andF_f, orF_t, orF_f, notF_b, negF_i, iteF2_t, iteF2_f, dNil_ap, dCons_ap, seqF0, seqF1, seqF2, seqF3, seqF4, seqF5, dTup_ap, dLst_ap, dCall_ap, l2_add, l2_sub, l2_lt, l2_le, l2_gt, l2_ge, l2_eq, l2_ne, l2_tup20, l2_tup21, l1_abs, l1_int, l1_lenT, l1_lenL, l1_tupL, l1_tupT, l1_listS, l1_isI, l1_isB, l1_isT, dGcd_ap, gcdF_i, flo_ret, flo_nx, flo_exc, dSetN_ap, hasN0, chg0, setAt1, setAt2, setAt3, fin_some, rix0, rix1, rix2, rix3, pow1018, Nat.reduceSub, List.replicate, List.replicate_zero, bnd_ok, bnd_exc, List.getElem?_cons_zero, List.getElem?_cons_succ, List.set_cons_succ, List.set_cons_zero, Option.map_some, if_true, decide_true, decide_false, Bool.not_true, Bool.not_false, Int.reduceLT, Int.reduceLE, Int.reduceEq, Int.reduceSub, Int.reduceAdd, Int.reduceMul, Int.reduceNeg, if_false]
      rw [e1]
      simp -implicitDefEqProofs only [sqF_nx, sqF_ret, sqF_brk, sqF_ct, sqF_exc, sbF_ok, sbF_exc, ifF_t, ifF_f, dSeq_ap, dSkip_ap, dAsg_ap, dAsgO_ap, dEx_ap, dRet_ap, dRetN_ap, dIfS_ap, dBrk_ap, dCt_ap, dRaise_ap, dFz_ap, dFor_ap, forR_ok, forR_exc, forD_nil, dK_ap, cellV_fz, cellB_fz, cellB_ow, dVar_ap, dBor_ap, dOp2_ap, dOp1_ap, dAnd_ap, dOr_ap, dNot_ap, dNeg_ap, dIf_ap, andF_t, andF_f, orF_t, orF_f, notF_b, negF_i, iteF2_t, iteF2_f, dNil_ap, dCons_ap, seqF0, seqF1, seqF2, seqF3, seqF4, seqF5, dTup_ap, dLst_ap, dCall_ap, l2_add, l2_sub, l2_lt, l2_le, l2_gt, l2_ge, l2_eq, l2_ne, l2_tup20, l2_tup21, l1_abs, l1_int, l1_lenT, l1_lenL, l1_tupL, l1_tupT, l1_listS, l1_isI, l1_isB, l1_isT, dGcd_ap, gcdF_i, flo_ret, flo_nx, flo_exc, dSetN_ap, hasN0, chg0, setAt1, setAt2, setAt3, fin_some, rix0, rix1, rix2, rix3, pow1018, Nat.reduceSub, List.replicate, List.replicate_zero, bnd_ok, bnd_exc, List.getElem?_cons_zero, List.getElem?_cons_succ, List.set_cons_succ, List.set_cons_zero, Option.map_some, if_true, decide_true, decide_false, Bool.not_true, Bool.not_false, Int.reduceLT, Int.reduceLE, Int.reduceEq, Int.reduceSub, Int.reduceAdd, Int.reduceMul, Int.reduceNeg, if_false, hp, h0]
      rw [e2]
      simp -implicitDefEqProofs only [sqF_nx, sqF_ret, sqF_brk, sqF_ct, sqF_exc, sbF_ok, sbF_exc, ifF_t, ifF_f, dSeq_ap, dSkip_ap, dAsg_ap, dAsgO_ap, dEx_ap, dRet_ap, dRetN_ap, dIfS_ap, dBrk_ap, dCt_ap, dRaise_ap, dFz_ap, dFor_ap, forR_ok, forR_exc, forD_nil, dK_ap, cellV_fz, cellB_fz, cellB_ow, dVar_ap, dBor_ap, dOp2_ap, dOp1_ap, dAnd_ap, dOr_ap, dNot_ap, dNeg_ap, dIf_ap, andF_t, andF_f, orF_t, orF_f, notF_b, negF_i, iteF2_t, iteF2_f, dNil_ap, dCons_ap, seqF0, seqF1, seqF2, seqF3, seqF4, seqF5, dTup_ap, dLst_ap, dCall_ap, l2_add, l2_sub, l2_lt, l2_le, l2_gt, l2_ge, l2_eq, l2_ne, l2_tup20, l2_tup21, l1_abs, l1_int, l1_lenT, l1_lenL, l1_tupL, l1_tupT, l1_listS, l1_isI, l1_isB, l1_isT, dGcd_ap, gcdF_i, flo_ret, flo_nx, flo_exc, dSetN_ap, hasN0, chg0, setAt1, setAt2, setAt3, fin_some, rix0, rix1, rix2, rix3, pow1018, Nat.reduceSub, List.replicate, List.replicate_zero, bnd_ok, bnd_exc, List.getElem?_cons_zero, List.getElem?_cons_succ, List.set_cons_succ, List.set_cons_zero, Option.map_some, if_true, decide_true, decide_false, Bool.not_true, Bool.not_false, Int.reduceLT, Int.reduceLE, Int.reduceEq, Int.reduceSub, Int.reduceAdd, Int.reduceMul, Int.reduceNeg, if_false]
      rfl
  | n + 1, k => fun R S g dp asks hd hg ho hdp ha => by
    rw [show k + (n + 1) + 9 = k + n + 9 + 1 by omega, hk]
    have ih := con_ok hk ht hn hv hc n k
    have hv1 : ValOk 1 (val (k + n + 9)) := by have := hv 1 (k + n + 3); rwa [show k + n + 3 + 1 + 5 = k + n + 9 by omega] at this
    have hc1 : CndOk 1 (cond (k + n + 9)) := by have := hc 1 (k + n + 1); rwa [show k + n + 1 + 1 + 7 = k + n + 9 by omega] at this
    have ht9 : TakeOk (take (k + n + 9)) := ht (k + n + 8)
    have hn9 : NumK (num (k + n + 9)) := by have := hn (k + n + 5); rwa [show k + n + 5 + 4 = k + n + 9 by omega] at this
    generalize val (k + n + 9) = val' at hv1 ⊢
    generalize cond (k + n + 9) = cond' at hc1 ⊢
    generalize take (k + n + 9) = take' at ht9 ⊢
    generalize num (k + n + 9) = num' at hn9 ⊢
    generalize con (k + n + 9) = con' at ih ⊢
    obtain ⟨m, S1, e1, h1, h2, d1⟩ := ht9 R S 15 hd (by decide) (by decide +kernel)
    have hp : ¬ (dp = 0) := by omega
    have hdp' : dp - 1 = (n : Int) := by omega
    rw [def4]; unfold conD
    simp -implicitDefEqProofs only [sqF_nx, sqF_ret, sqF_brk, sqF_ct, sqF_exc, sbF_ok, sbF_exc, ifF_t, ifF_f, dSeq_ap, dSkip_ap, dAsg_ap, dAsgO_ap, dEx_ap, dRet_ap, dRetN_ap, dIfS_ap, dBrk_ap, dCt_ap, dRaise_ap, dFz_ap, dFor_ap, forR_ok, forR_exc, forD_nil, dK_ap, cellV_fz, cellB_fz, cellB_ow, dVar_ap, dBor_ap, dOp2_ap, dOp1_ap, dAnd_ap, dOr_ap, dNot_ap, dNeg_ap, dIf_ap, andF_t, andF_f, orF_t, orF_f, notF_b, negF_i, iteF2_t, iteF2_f, dNil_ap, dCons_ap, seqF0, seqF1, seqF2, seqF3, seqF4, seqF5, dTup_ap, dLst_ap, dCall_ap, l2_add, l2_sub, l2_lt, l2_le, l2_gt, l2_ge, l2_eq, l2_ne, l2_tup20, l2_tup21, l1_abs, l1_int, l1_lenT, l1_lenL, l1_tupL, l1_tupT, l1_listS, l1_isI, l1_isB, l1_isT, dGcd_ap, gcdF_i, flo_ret, flo_nx, flo_exc, dSetN_ap, hasN0, chg0, setAt1, setAt2, setAt3, fin_some, rix0, rix1, rix2, rix3, pow1018, Nat.reduceSub, List.replicate, List.replicate_zero, bnd_ok, bnd_exc, List.getElem?_cons_zero, List.getElem?_cons_succ, List.set_cons_succ, List.set_cons_zero, Option.map_some, if_true, decide_true, decide_false, Bool.not_true, Bool.not_false, Int.reduceLT, Int.reduceLE, Int.reduceEq, Int.reduceSub, Int.reduceAdd, Int.reduceMul, Int.reduceNeg, if_false]
    rw [e1]
    by_cases h0 : m = 0
    · refine ⟨.nothing, S1, ?_, trivial, by show 1 ≤ _; omega, d1⟩
      simp -implicitDefEqProofs only [sqF_nx, sqF_ret, sqF_brk, sqF_ct, sqF_exc, sbF_ok, sbF_exc, ifF_t, ifF_f, dSeq_ap, dSkip_ap, dAsg_ap, dAsgO_ap, dEx_ap, dRet_ap, dRetN_ap, dIfS_ap, dBrk_ap, dCt_ap, dRaise_ap, dFz_ap, dFor_ap, forR_ok, forR_exc, forD_nil, dK_ap, cellV_fz, cellB_fz, cellB_ow, dVar_ap, dBor_ap, dOp2_ap, dOp1_ap, dAnd_ap, dOr_ap, dNot_ap, dNeg_ap, dIf_ap, andF_t, andF_f, orF_t, orF_f, notF_b, negF_i, iteF2_t, iteF2_f, dNil_ap, dCons_ap, seqF0, seqF1, seqF2, seqF3, seqF4, seqF5, dTup_ap, dLst_ap, dCall_ap, l2_add, l2_sub, l2_lt, l2_le, l2_gt, l2_ge, l2_eq, l2_ne, l2_tup20, l2_tup21, l1_abs, l1_int, l1_lenT, l1_lenL, l1_tupL, l1_tupT, l1_listS, l1_isI, l1_isB, l1_isT, dGcd_ap, gcdF_i, flo_ret, flo_nx, flo_exc, dSetN_ap, hasN0, chg0, setAt1, setAt2, setAt3, fin_some, rix0, rix1, rix2, rix3, pow1018, Nat.reduceSub, List.replicate, List.replicate_zero, bnd_ok, bnd_exc, List.getElem?_cons_zero, List.getElem?_cons_succ, List.set_cons_succ, List.set_cons_zero, Option.map_some, if_true, decide_true, decide_false, Bool.not_true, Bool.not_false, Int.reduceLT, Int.reduceLE, Int.reduceEq, Int.reduceSub, Int.reduceAdd, Int.reduceMul, Int.reduceNeg, if_false, hp, h0]
      rfl
    by_cases hm2 : m < 2
    · obtain ⟨x, S2, e2, x1, x2, d2⟩ := ht9 R S1 g d1 hg ho
      refine ⟨.price .one x, S2, ?_, ⟨x1, x2⟩, by show 1 ≤ _; omega, d2⟩
      simp -implicitDefEqProofs only [sqF_nx, sqF_ret, sqF_brk, sqF_ct, sqF_exc, sbF_ok, sbF_exc, ifF_t, ifF_f, dSeq_ap, dSkip_ap, dAsg_ap, dAsgO_ap, dEx_ap, dRet_ap, dRetN_ap, dIfS_ap, dBrk_ap, dCt_ap, dRaise_ap, dFz_ap, dFor_ap, forR_ok, forR_exc, forD_nil, dK_ap, cellV_fz, cellB_fz, cellB_ow, dVar_ap, dBor_ap, dOp2_ap, dOp1_ap, dAnd_ap, dOr_ap, dNot_ap, dNeg_ap, dIf_ap, andF_t, andF_f, orF_t, orF_f, notF_b, negF_i, iteF2_t, iteF2_f, dNil_ap, dCons_ap, seqF0, seqF1, seqF2, seqF3, seqF4, seqF5, dTup_ap, dLst_ap, dCall_ap, l2_add, l2_sub, l2_lt, l2_le, l2_gt, l2_ge, l2_eq, l2_ne, l2_tup20, l2_tup21, l1_abs, l1_int, l1_lenT, l1_lenL, l1_tupL, l1_tupT, l1_listS, l1_isI, l1_isB, l1_isT, dGcd_ap, gcdF_i, flo_ret, flo_nx, flo_exc, dSetN_ap, hasN0, chg0, setAt1, setAt2, setAt3, fin_some, rix0, rix1, rix2, rix3, pow1018, Nat.reduceSub, List.replicate, List.replicate_zero, bnd_ok, bnd_exc, List.getElem?_cons_zero, List.getElem?_cons_succ, List.set_cons_succ, List.set_cons_zero, Option.map_some, if_true, decide_true, decide_false, Bool.not_true, Bool.not_false, Int.reduceLT, Int.reduceLE, Int.reduceEq, Int.reduceSub, Int.reduceAdd, Int.reduceMul, Int.reduceNeg, if_false, hp, h0, hm2]
      rw [e2]
      simp -implicitDefEqProofs only [sqF_nx, sqF_ret, sqF_brk, sqF_ct, sqF_exc, sbF_ok, sbF_exc, ifF_t, ifF_f, dSeq_ap, dSkip_ap, dAsg_ap, dAsgO_ap, dEx_ap, dRet_ap, dRetN_ap, dIfS_ap, dBrk_ap, dCt_ap, dRaise_ap, dFz_ap, dFor_ap, forR_ok, forR_exc, forD_nil, dK_ap, cellV_fz, cellB_fz, cellB_ow, dVar_ap, dBor_ap, dOp2_ap, dOp1_ap, dAnd_ap, dOr_ap, dNot_ap, dNeg_ap, dIf_ap, andF_t, andF_f, orF_t, orF_f, notF_b, negF_i, iteF2_t, iteF2_f, dNil_ap, dCons_ap, seqF0, seqF1, seqF2, seqF3, seqF4, seqF5, dTup_ap, dLst_ap, dCall_ap, l2_add, l2_sub, l2_lt, l2_le, l2_gt, l2_ge, l2_eq, l2_ne, l2_tup20, l2_tup21, l1_abs, l1_int, l1_lenT, l1_lenL, l1_tupL, l1_tupT, l1_listS, l1_isI, l1_isB, l1_isT, dGcd_ap, gcdF_i, flo_ret, flo_nx, flo_exc, dSetN_ap, hasN0, chg0, setAt1, setAt2, setAt3, fin_some, rix0, rix1, rix2, rix3, pow1018, Nat.reduceSub, List.replicate, List.replicate_zero, bnd_ok, bnd_exc, List.getElem?_cons_zero, List.getElem?_cons_succ, List.set_cons_succ, List.set_cons_zero, Option.map_some, if_true, decide_true, decide_false, Bool.not_true, Bool.not_false, Int.reduceLT, Int.reduceLE, Int.reduceEq, Int.reduceSub, Int.reduceAdd, Int.reduceMul, Int.reduceNeg, if_false]
      rfl
    by_cases hm5 : m < 5
    · obtain ⟨p, S2, e2, p1, p2, d2⟩ := hv1 R S1 g 1 d1 hg ho rfl
      obtain ⟨q, S3, e3, q1, q2, d3⟩ := ih R S2 g (dp - 1) asks d2 hg ho hdp' ha
      refine ⟨.n2 .scale p q, S3, ?_, ⟨p1, q1⟩, by show max p.hgt q.hgt + 1 ≤ _; omega, d3⟩
      simp -implicitDefEqProofs only [sqF_nx, sqF_ret, sqF_brk, sqF_ct, sqF_exc, sbF_ok, sbF_exc, ifF_t, ifF_f, dSeq_ap, dSkip_ap, dAsg_ap, dAsgO_ap, dEx_ap, dRet_ap, dRetN_ap, dIfS_ap, dBrk_ap, dCt_ap, dRaise_ap, dFz_ap, dFor_ap, forR_ok, forR_exc, forD_nil, dK_ap, cellV_fz, cellB_fz, cellB_ow, dVar_ap, dBor_ap, dOp2_ap, dOp1_ap, dAnd_ap, dOr_ap, dNot_ap, dNeg_ap, dIf_ap, andF_t, andF_f, orF_t, orF_f, notF_b, negF_i, iteF2_t, iteF2_f, dNil_ap, dCons_ap, seqF0, seqF1, seqF2, seqF3, seqF4, seqF5, dTup_ap, dLst_ap, dCall_ap, l2_add, l2_sub, l2_lt, l2_le, l2_gt, l2_ge, l2_eq, l2_ne, l2_tup20, l2_tup21, l1_abs, l1_int, l1_lenT, l1_lenL, l1_tupL, l1_tupT, l1_listS, l1_isI, l1_isB, l1_isT, dGcd_ap, gcdF_i, flo_ret, flo_nx, flo_exc, dSetN_ap, hasN0, chg0, setAt1, setAt2, setAt3, fin_some, rix0, rix1, rix2, rix3, pow1018, Nat.reduceSub, List.replicate, List.replicate_zero, bnd_ok, bnd_exc, List.getElem?_cons_zero, List.getElem?_cons_succ, List.set_cons_succ, List.set_cons_zero, Option.map_some, if_true, decide_true, decide_false, Bool.not_true, Bool.not_false, Int.reduceLT, Int.reduceLE, Int.reduceEq, Int.reduceSub, Int.reduceAdd, Int.reduceMul, Int.reduceNeg, if_false, hp, h0, hm2, hm5]
      rw [e2]
      simp -implicitDefEqProofs only [sqF_nx, sqF_ret, sqF_brk, sqF_ct, sqF_exc, sbF_ok, sbF_exc, ifF_t, ifF_f, dSeq_ap, dSkip_ap, dAsg_ap, dAsgO_ap, dEx_ap, dRet_ap, dRetN_ap, dIfS_ap, dBrk_ap, dCt_ap, dRaise_ap, dFz_ap, dFor_ap, forR_ok, forR_exc, forD_nil, dK_ap, cellV_fz, cellB_fz, cellB_ow, dVar_ap, dBor_ap, dOp2_ap, dOp1_ap, dAnd_ap, dOr_ap, dNot_ap, dNeg_ap, dIf_ap, andF_t, andF_f, orF_t, orF_f, notF_b, negF_i, iteF2_t, iteF2_f, dNil_ap, dCons_ap, seqF0, seqF1, seqF2, seqF3, seqF4, seqF5, dTup_ap, dLst_ap, dCall_ap, l2_add, l2_sub, l2_lt, l2_le, l2_gt, l2_ge, l2_eq, l2_ne, l2_tup20, l2_tup21, l1_abs, l1_int, l1_lenT, l1_lenL, l1_tupL, l1_tupT, l1_listS, l1_isI, l1_isB, l1_isT, dGcd_ap, gcdF_i, flo_ret, flo_nx, flo_exc, dSetN_ap, hasN0, chg0, setAt1, setAt2, setAt3, fin_some, rix0, rix1, rix2, rix3, pow1018, Nat.reduceSub, List.replicate, List.replicate_zero, bnd_ok, bnd_exc, List.getElem?_cons_zero, List.getElem?_cons_succ, List.set_cons_succ, List.set_cons_zero, Option.map_some, if_true, decide_true, decide_false, Bool.not_true, Bool.not_false, Int.reduceLT, Int.reduceLE, Int.reduceEq, Int.reduceSub, Int.reduceAdd, Int.reduceMul, Int.reduceNeg, if_false]
      rw [e3]
      simp -implicitDefEqProofs only [sqF_nx, sqF_ret, sqF_brk, sqF_ct, sqF_exc, sbF_ok, sbF_exc, ifF_t, ifF_f, dSeq_ap, dSkip_ap, dAsg_ap, dAsgO_ap, dEx_ap, dRet_ap, dRetN_ap, dIfS_ap, dBrk_ap, dCt_ap, dRaise_ap, dFz_ap, dFor_ap, forR_ok, forR_exc, forD_nil, dK_ap, cellV_fz, cellB_fz, cellB_ow, dVar_ap, dBor_ap, dOp2_ap, dOp1_ap, dAnd_ap, dOr_ap, dNot_ap, dNeg_ap, dIf_ap, andF_t, andF_f, orF_t, orF_f, notF_b, negF_i, iteF2_t, iteF2_f, dNil_ap, dCons_ap, seqF0, seqF1, seqF2, seqF3, seqF4, seqF5, dTup_ap, dLst_ap, dCall_ap, l2_add, l2_sub, l2_lt, l2_le, l2_gt, l2_ge, l2_eq, l2_ne, l2_tup20, l2_tup21, l1_abs, l1_int, l1_lenT, l1_lenL, l1_tupL, l1_tupT, l1_listS, l1_isI, l1_isB, l1_isT, dGcd_ap, gcdF_i, flo_ret, flo_nx, flo_exc, dSetN_ap, hasN0, chg0, setAt1, setAt2, setAt3, fin_some, rix0, rix1, rix2, rix3, pow1018, Nat.reduceSub, List.replicate, List.replicate_zero, bnd_ok, bnd_exc, List.getElem?_cons_zero, List.getElem?_cons_succ, List.set_cons_succ, List.set_cons_zero, Option.map_some, if_true, decide_true, decide_false, Bool.not_true, Bool.not_false, Int.reduceLT, Int.reduceLE, Int.reduceEq, Int.reduceSub, Int.reduceAdd, Int.reduceMul, Int.reduceNeg, if_false]
      rfl
    by_cases hm7 : m < 7
    · obtain ⟨p, S2, e2, p1, p2, d2⟩ := ih R S1 g (dp - 1) asks d1 hg ho hdp' ha
      obtain ⟨q, S3, e3, q1, q2, d3⟩ := ih R S2 g (dp - 1) 0 d2 hg ho hdp' (by decide)
      refine ⟨.n2 .both p q, S3, ?_, ⟨p1, q1⟩, by show max p.hgt q.hgt + 1 ≤ _; omega, d3⟩
      simp -implicitDefEqProofs only [sqF_nx, sqF_ret, sqF_brk, sqF_ct, sqF_exc, sbF_ok, sbF_exc, ifF_t, ifF_f, dSeq_ap, dSkip_ap, dAsg_ap, dAsgO_ap, dEx_ap, dRet_ap, dRetN_ap, dIfS_ap, dBrk_ap, dCt_ap, dRaise_ap, dFz_ap, dFor_ap, forR_ok, forR_exc, forD_nil, dK_ap, cellV_fz, cellB_fz, cellB_ow, dVar_ap, dBor_ap, dOp2_ap, dOp1_ap, dAnd_ap, dOr_ap, dNot_ap, dNeg_ap, dIf_ap, andF_t, andF_f, orF_t, orF_f, notF_b, negF_i, iteF2_t, iteF2_f, dNil_ap, dCons_ap, seqF0, seqF1, seqF2, seqF3, seqF4, seqF5, dTup_ap, dLst_ap, dCall_ap, l2_add, l2_sub, l2_lt, l2_le, l2_gt, l2_ge, l2_eq, l2_ne, l2_tup20, l2_tup21, l1_abs, l1_int, l1_lenT, l1_lenL, l1_tupL, l1_tupT, l1_listS, l1_isI, l1_isB, l1_isT, dGcd_ap, gcdF_i, flo_ret, flo_nx, flo_exc, dSetN_ap, hasN0, chg0, setAt1, setAt2, setAt3, fin_some, rix0, rix1, rix2, rix3, pow1018, Nat.reduceSub, List.replicate, List.replicate_zero, bnd_ok, bnd_exc, List.getElem?_cons_zero, List.getElem?_cons_succ, List.set_cons_succ, List.set_cons_zero, Option.map_some, if_true, decide_true, decide_false, Bool.not_true, Bool.not_false, Int.reduceLT, Int.reduceLE, Int.reduceEq, Int.reduceSub, Int.reduceAdd, Int.reduceMul, Int.reduceNeg, if_false, hp, h0, hm2, hm5, hm7]
      rw [e2]
      simp -implicitDefEqProofs only [sqF_nx, sqF_ret, sqF_brk, sqF_ct, sqF_exc, sbF_ok, sbF_exc, ifF_t, ifF_f, dSeq_ap, dSkip_ap, dAsg_ap, dAsgO_ap, dEx_ap, dRet_ap, dRetN_ap, dIfS_ap, dBrk_ap, dCt_ap, dRaise_ap, dFz_ap, dFor_ap, forR_ok, forR_exc, forD_nil, dK_ap, cellV_fz, cellB_fz, cellB_ow, dVar_ap, dBor_ap, dOp2_ap, dOp1_ap, dAnd_ap, dOr_ap, dNot_ap, dNeg_ap, dIf_ap, andF_t, andF_f, orF_t, orF_f, notF_b, negF_i, iteF2_t, iteF2_f, dNil_ap, dCons_ap, seqF0, seqF1, seqF2, seqF3, seqF4, seqF5, dTup_ap, dLst_ap, dCall_ap, l2_add, l2_sub, l2_lt, l2_le, l2_gt, l2_ge, l2_eq, l2_ne, l2_tup20, l2_tup21, l1_abs, l1_int, l1_lenT, l1_lenL, l1_tupL, l1_tupT, l1_listS, l1_isI, l1_isB, l1_isT, dGcd_ap, gcdF_i, flo_ret, flo_nx, flo_exc, dSetN_ap, hasN0, chg0, setAt1, setAt2, setAt3, fin_some, rix0, rix1, rix2, rix3, pow1018, Nat.reduceSub, List.replicate, List.replicate_zero, bnd_ok, bnd_exc, List.getElem?_cons_zero, List.getElem?_cons_succ, List.set_cons_succ, List.set_cons_zero, Option.map_some, if_true, decide_true, decide_false, Bool.not_true, Bool.not_false, Int.reduceLT, Int.reduceLE, Int.reduceEq, Int.reduceSub, Int.reduceAdd, Int.reduceMul, Int.reduceNeg, if_false]
      rw [e3]
      simp -implicitDefEqProofs only [sqF_nx, sqF_ret, sqF_brk, sqF_ct, sqF_exc, sbF_ok, sbF_exc, ifF_t, ifF_f, dSeq_ap, dSkip_ap, dAsg_ap, dAsgO_ap, dEx_ap, dRet_ap, dRetN_ap, dIfS_ap, dBrk_ap, dCt_ap, dRaise_ap, dFz_ap, dFor_ap, forR_ok, forR_exc, forD_nil, dK_ap, cellV_fz, cellB_fz, cellB_ow, dVar_ap, dBor_ap, dOp2_ap, dOp1_ap, dAnd_ap, dOr_ap, dNot_ap, dNeg_ap, dIf_ap, andF_t, andF_f, orF_t, orF_f, notF_b, negF_i, iteF2_t, iteF2_f, dNil_ap, dCons_ap, seqF0, seqF1, seqF2, seqF3, seqF4, seqF5, dTup_ap, dLst_ap, dCall_ap, l2_add, l2_sub, l2_lt, l2_le, l2_gt, l2_ge, l2_eq, l2_ne, l2_tup20, l2_tup21, l1_abs, l1_int, l1_lenT, l1_lenL, l1_tupL, l1_tupT, l1_listS, l1_isI, l1_isB, l1_isT, dGcd_ap, gcdF_i, flo_ret, flo_nx, flo_exc, dSetN_ap, hasN0, chg0, setAt1, setAt2, setAt3, fin_some, rix0, rix1, rix2, rix3, pow1018, Nat.reduceSub, List.replicate, List.replicate_zero, bnd_ok, bnd_exc, List.getElem?_cons_zero, List.getElem?_cons_succ, List.set_cons_succ, List.set_cons_zero, Option.map_some, if_true, decide_true, decide_false, Bool.not_true, Bool.not_false, Int.reduceLT, Int.reduceLE, Int.reduceEq, Int.reduceSub, Int.reduceAdd, Int.reduceMul, Int.reduceNeg, if_false]
      rfl
    by_cases e7 : m = 7
    · obtain ⟨p, S2, e2, p1, p2, d2⟩ := ih R S1 g (dp - 1) asks d1 hg ho hdp' ha
      refine ⟨.n1 .give p, S2, ?_, p1, by show p.hgt + 1 ≤ _; omega, d2⟩
      simp -implicitDefEqProofs only [sqF_nx, sqF_ret, sqF_brk, sqF_ct, sqF_exc, sbF_ok, sbF_exc, ifF_t, ifF_f, dSeq_ap, dSkip_ap, dAsg_ap, dAsgO_ap, dEx_ap, dRet_ap, dRetN_ap, dIfS_ap, dBrk_ap, dCt_ap, dRaise_ap, dFz_ap, dFor_ap, forR_ok, forR_exc, forD_nil, dK_ap, cellV_fz, cellB_fz, cellB_ow, dVar_ap, dBor_ap, dOp2_ap, dOp1_ap, dAnd_ap, dOr_ap, dNot_ap, dNeg_ap, dIf_ap, andF_t, andF_f, orF_t, orF_f, notF_b, negF_i, iteF2_t, iteF2_f, dNil_ap, dCons_ap, seqF0, seqF1, seqF2, seqF3, seqF4, seqF5, dTup_ap, dLst_ap, dCall_ap, l2_add, l2_sub, l2_lt, l2_le, l2_gt, l2_ge, l2_eq, l2_ne, l2_tup20, l2_tup21, l1_abs, l1_int, l1_lenT, l1_lenL, l1_tupL, l1_tupT, l1_listS, l1_isI, l1_isB, l1_isT, dGcd_ap, gcdF_i, flo_ret, flo_nx, flo_exc, dSetN_ap, hasN0, chg0, setAt1, setAt2, setAt3, fin_some, rix0, rix1, rix2, rix3, pow1018, Nat.reduceSub, List.replicate, List.replicate_zero, bnd_ok, bnd_exc, List.getElem?_cons_zero, List.getElem?_cons_succ, List.set_cons_succ, List.set_cons_zero, Option.map_some, if_true, decide_true, decide_false, Bool.not_true, Bool.not_false, Int.reduceLT, Int.reduceLE, Int.reduceEq, Int.reduceSub, Int.reduceAdd, Int.reduceMul, Int.reduceNeg, if_false, hp, e7]
      rw [e2]
      simp -implicitDefEqProofs only [sqF_nx, sqF_ret, sqF_brk, sqF_ct, sqF_exc, sbF_ok, sbF_exc, ifF_t, ifF_f, dSeq_ap, dSkip_ap, dAsg_ap, dAsgO_ap, dEx_ap, dRet_ap, dRetN_ap, dIfS_ap, dBrk_ap, dCt_ap, dRaise_ap, dFz_ap, dFor_ap, forR_ok, forR_exc, forD_nil, dK_ap, cellV_fz, cellB_fz, cellB_ow, dVar_ap, dBor_ap, dOp2_ap, dOp1_ap, dAnd_ap, dOr_ap, dNot_ap, dNeg_ap, dIf_ap, andF_t, andF_f, orF_t, orF_f, notF_b, negF_i, iteF2_t, iteF2_f, dNil_ap, dCons_ap, seqF0, seqF1, seqF2, seqF3, seqF4, seqF5, dTup_ap, dLst_ap, dCall_ap, l2_add, l2_sub, l2_lt, l2_le, l2_gt, l2_ge, l2_eq, l2_ne, l2_tup20, l2_tup21, l1_abs, l1_int, l1_lenT, l1_lenL, l1_tupL, l1_tupT, l1_listS, l1_isI, l1_isB, l1_isT, dGcd_ap, gcdF_i, flo_ret, flo_nx, flo_exc, dSetN_ap, hasN0, chg0, setAt1, setAt2, setAt3, fin_some, rix0, rix1, rix2, rix3, pow1018, Nat.reduceSub, List.replicate, List.replicate_zero, bnd_ok, bnd_exc, List.getElem?_cons_zero, List.getElem?_cons_succ, List.set_cons_succ, List.set_cons_zero, Option.map_some, if_true, decide_true, decide_false, Bool.not_true, Bool.not_false, Int.reduceLT, Int.reduceLE, Int.reduceEq, Int.reduceSub, Int.reduceAdd, Int.reduceMul, Int.reduceNeg, if_false]
      rfl
    by_cases e8 : m = 8
    · obtain ⟨x, S2, e2, x1, x2, d2⟩ := ht9 R S1 4 d1 (by decide) (by decide +kernel)
      obtain ⟨q, S3, e3, q1, q2, d3⟩ := ih R S2 g (dp - 1) asks d2 hg ho hdp' ha
      refine ⟨.time .at_ x q, S3, ?_, ⟨x1, x2, q1⟩, by show q.hgt + 1 ≤ _; omega, d3⟩
      simp -implicitDefEqProofs only [sqF_nx, sqF_ret, sqF_brk, sqF_ct, sqF_exc, sbF_ok, sbF_exc, ifF_t, ifF_f, dSeq_ap, dSkip_ap, dAsg_ap, dAsgO_ap, dEx_ap, dRet_ap, dRetN_ap, dIfS_ap, dBrk_ap, dCt_ap, dRaise_ap, dFz_ap, dFor_ap, forR_ok, forR_exc, forD_nil, dK_ap, cellV_fz, cellB_fz, cellB_ow, dVar_ap, dBor_ap, dOp2_ap, dOp1_ap, dAnd_ap, dOr_ap, dNot_ap, dNeg_ap, dIf_ap, andF_t, andF_f, orF_t, orF_f, notF_b, negF_i, iteF2_t, iteF2_f, dNil_ap, dCons_ap, seqF0, seqF1, seqF2, seqF3, seqF4, seqF5, dTup_ap, dLst_ap, dCall_ap, l2_add, l2_sub, l2_lt, l2_le, l2_gt, l2_ge, l2_eq, l2_ne, l2_tup20, l2_tup21, l1_abs, l1_int, l1_lenT, l1_lenL, l1_tupL, l1_tupT, l1_listS, l1_isI, l1_isB, l1_isT, dGcd_ap, gcdF_i, flo_ret, flo_nx, flo_exc, dSetN_ap, hasN0, chg0, setAt1, setAt2, setAt3, fin_some, rix0, rix1, rix2, rix3, pow1018, Nat.reduceSub, List.replicate, List.replicate_zero, bnd_ok, bnd_exc, List.getElem?_cons_zero, List.getElem?_cons_succ, List.set_cons_succ, List.set_cons_zero, Option.map_some, if_true, decide_true, decide_false, Bool.not_true, Bool.not_false, Int.reduceLT, Int.reduceLE, Int.reduceEq, Int.reduceSub, Int.reduceAdd, Int.reduceMul, Int.reduceNeg, if_false, hp, e8]
      rw [e2]
      simp -implicitDefEqProofs only [sqF_nx, sqF_ret, sqF_brk, sqF_ct, sqF_exc, sbF_ok, sbF_exc, ifF_t, ifF_f, dSeq_ap, dSkip_ap, dAsg_ap, dAsgO_ap, dEx_ap, dRet_ap, dRetN_ap, dIfS_ap, dBrk_ap, dCt_ap, dRaise_ap, dFz_ap, dFor_ap, forR_ok, forR_exc, forD_nil, dK_ap, cellV_fz, cellB_fz, cellB_ow, dVar_ap, dBor_ap, dOp2_ap, dOp1_ap, dAnd_ap, dOr_ap, dNot_ap, dNeg_ap, dIf_ap, andF_t, andF_f, orF_t, orF_f, notF_b, negF_i, iteF2_t, iteF2_f, dNil_ap, dCons_ap, seqF0, seqF1, seqF2, seqF3, seqF4, seqF5, dTup_ap, dLst_ap, dCall_ap, l2_add, l2_sub, l2_lt, l2_le, l2_gt, l2_ge, l2_eq, l2_ne, l2_tup20, l2_tup21, l1_abs, l1_int, l1_lenT, l1_lenL, l1_tupL, l1_tupT, l1_listS, l1_isI, l1_isB, l1_isT, dGcd_ap, gcdF_i, flo_ret, flo_nx, flo_exc, dSetN_ap, hasN0, chg0, setAt1, setAt2, setAt3, fin_some, rix0, rix1, rix2, rix3, pow1018, Nat.reduceSub, List.replicate, List.replicate_zero, bnd_ok, bnd_exc, List.getElem?_cons_zero, List.getElem?_cons_succ, List.set_cons_succ, List.set_cons_zero, Option.map_some, if_true, decide_true, decide_false, Bool.not_true, Bool.not_false, Int.reduceLT, Int.reduceLE, Int.reduceEq, Int.reduceSub, Int.reduceAdd, Int.reduceMul, Int.reduceNeg, if_false]
      rw [e3]
      simp -implicitDefEqProofs only [sqF_nx, sqF_ret, sqF_brk, sqF_ct, sqF_exc, sbF_ok, sbF_exc, ifF_t, ifF_f, dSeq_ap, dSkip_ap, dAsg_ap, dAsgO_ap, dEx_ap, dRet_ap, dRetN_ap, dIfS_ap, dBrk_ap, dCt_ap, dRaise_ap, dFz_ap, dFor_ap, forR_ok, forR_exc, forD_nil, dK_ap, cellV_fz, cellB_fz, cellB_ow, dVar_ap, dBor_ap, dOp2_ap, dOp1_ap, dAnd_ap, dOr_ap, dNot_ap, dNeg_ap, dIf_ap, andF_t, andF_f, orF_t, orF_f, notF_b, negF_i, iteF2_t, iteF2_f, dNil_ap, dCons_ap, seqF0, seqF1, seqF2, seqF3, seqF4, seqF5, dTup_ap, dLst_ap, dCall_ap, l2_add, l2_sub, l2_lt, l2_le, l2_gt, l2_ge, l2_eq, l2_ne, l2_tup20, l2_tup21, l1_abs, l1_int, l1_lenT, l1_lenL, l1_tupL, l1_tupT, l1_listS, l1_isI, l1_isB, l1_isT, dGcd_ap, gcdF_i, flo_ret, flo_nx, flo_exc, dSetN_ap, hasN0, chg0, setAt1, setAt2, setAt3, fin_some, rix0, rix1, rix2, rix3, pow1018, Nat.reduceSub, List.replicate, List.replicate_zero, bnd_ok, bnd_exc, List.getElem?_cons_zero, List.getElem?_cons_succ, List.set_cons_succ, List.set_cons_zero, Option.map_some, if_true, decide_true, decide_false, Bool.not_true, Bool.not_false, Int.reduceLT, Int.reduceLE, Int.reduceEq, Int.reduceSub, Int.reduceAdd, Int.reduceMul, Int.reduceNeg, if_false]
      rfl
    by_cases e9 : m = 9
    · obtain ⟨p, S2, e2, p1, p2, d2⟩ := hc1 R S1 g 1 d1 hg ho rfl
      obtain ⟨q, S3, e3, q1, q2, d3⟩ := ih R S2 g (dp - 1) asks d2 hg ho hdp' ha
      refine ⟨.n2 .when p q, S3, ?_, ⟨p1, q1⟩, by show max p.hgt q.hgt + 1 ≤ _; omega, d3⟩
      simp -implicitDefEqProofs only [sqF_nx, sqF_ret, sqF_brk, sqF_ct, sqF_exc, sbF_ok, sbF_exc, ifF_t, ifF_f, dSeq_ap, dSkip_ap, dAsg_ap, dAsgO_ap, dEx_ap, dRet_ap, dRetN_ap, dIfS_ap, dBrk_ap, dCt_ap, dRaise_ap, dFz_ap, dFor_ap, forR_ok, forR_exc, forD_nil, dK_ap, cellV_fz, cellB_fz, cellB_ow, dVar_ap, dBor_ap, dOp2_ap, dOp1_ap, dAnd_ap, dOr_ap, dNot_ap, dNeg_ap, dIf_ap, andF_t, andF_f, orF_t, orF_f, notF_b, negF_i, iteF2_t, iteF2_f, dNil_ap, dCons_ap, seqF0, seqF1, seqF2, seqF3, seqF4, seqF5, dTup_ap, dLst_ap, dCall_ap, l2_add, l2_sub, l2_lt, l2_le, l2_gt, l2_ge, l2_eq, l2_ne, l2_tup20, l2_tup21, l1_abs, l1_int, l1_lenT, l1_lenL, l1_tupL, l1_tupT, l1_listS, l1_isI, l1_isB, l1_isT, dGcd_ap, gcdF_i, flo_ret, flo_nx, flo_exc, dSetN_ap, hasN0, chg0, setAt1, setAt2, setAt3, fin_some, rix0, rix1, rix2, rix3, pow1018, Nat.reduceSub, List.replicate, List.replicate_zero, bnd_ok, bnd_exc, List.getElem?_cons_zero, List.getElem?_cons_succ, List.set_cons_succ, List.set_cons_zero, Option.map_some, if_true, decide_true, decide_false, Bool.not_true, Bool.not_false, Int.reduceLT, Int.reduceLE, Int.reduceEq, Int.reduceSub, Int.reduceAdd, Int.reduceMul, Int.reduceNeg, if_false, hp, e9]
      rw [e2]
      simp -implicitDefEqProofs only [sqF_nx, sqF_ret, sqF_brk, sqF_ct, sqF_exc, sbF_ok, sbF_exc, ifF_t, ifF_f, dSeq_ap, dSkip_ap, dAsg_ap, dAsgO_ap, dEx_ap, dRet_ap, dRetN_ap, dIfS_ap, dBrk_ap, dCt_ap, dRaise_ap, dFz_ap, dFor_ap, forR_ok, forR_exc, forD_nil, dK_ap, cellV_fz, cellB_fz, cellB_ow, dVar_ap, dBor_ap, dOp2_ap, dOp1_ap, dAnd_ap, dOr_ap, dNot_ap, dNeg_ap, dIf_ap, andF_t, andF_f, orF_t, orF_f, notF_b, negF_i, iteF2_t, iteF2_f, dNil_ap, dCons_ap, seqF0, seqF1, seqF2, seqF3, seqF4, seqF5, dTup_ap, dLst_ap, dCall_ap, l2_add, l2_sub, l2_lt, l2_le, l2_gt, l2_ge, l2_eq, l2_ne, l2_tup20, l2_tup21, l1_abs, l1_int, l1_lenT, l1_lenL, l1_tupL, l1_tupT, l1_listS, l1_isI, l1_isB, l1_isT, dGcd_ap, gcdF_i, flo_ret, flo_nx, flo_exc, dSetN_ap, hasN0, chg0, setAt1, setAt2, setAt3, fin_some, rix0, rix1, rix2, rix3, pow1018, Nat.reduceSub, List.replicate, List.replicate_zero, bnd_ok, bnd_exc, List.getElem?_cons_zero, List.getElem?_cons_succ, List.set_cons_succ, List.set_cons_zero, Option.map_some, if_true, decide_true, decide_false, Bool.not_true, Bool.not_false, Int.reduceLT, Int.reduceLE, Int.reduceEq, Int.reduceSub, Int.reduceAdd, Int.reduceMul, Int.reduceNeg, if_false]
      rw [e3]
      simp -implicitDefEqProofs only [sqF_nx, sqF_ret, sqF_brk, sqF_ct, sqF_exc, sbF_ok, sbF_exc, ifF_t, ifF_f, dSeq_ap, dSkip_ap, dAsg_ap, dAsgO_ap, dEx_ap, dRet_ap, dRetN_ap, dIfS_ap, dBrk_ap, dCt_ap, dRaise_ap, dFz_ap, dFor_ap, forR_ok, forR_exc, forD_nil, dK_ap, cellV_fz, cellB_fz, cellB_ow, dVar_ap, dBor_ap, dOp2_ap, dOp1_ap, dAnd_ap, dOr_ap, dNot_ap, dNeg_ap, dIf_ap, andF_t, andF_f, orF_t, orF_f, notF_b, negF_i, iteF2_t, iteF2_f, dNil_ap, dCons_ap, seqF0, seqF1, seqF2, seqF3, seqF4, seqF5, dTup_ap, dLst_ap, dCall_ap, l2_add, l2_sub, l2_lt, l2_le, l2_gt, l2_ge, l2_eq, l2_ne, l2_tup20, l2_tup21, l1_abs, l1_int, l1_lenT, l1_lenL, l1_tupL, l1_tupT, l1_listS, l1_isI, l1_isB, l1_isT, dGcd_ap, gcdF_i, flo_ret, flo_nx, flo_exc, dSetN_ap, hasN0, chg0, setAt1, setAt2, setAt3, fin_some, rix0, rix1, rix2, rix3, pow1018, Nat.reduceSub, List.replicate, List.replicate_zero, bnd_ok, bnd_exc, List.getElem?_cons_zero, List.getElem?_cons_succ, List.set_cons_succ, List.set_cons_zero, Option.map_some, if_true, decide_true, decide_false, Bool.not_true, Bool.not_false, Int.reduceLT, Int.reduceLE, Int.reduceEq, Int.reduceSub, Int.reduceAdd, Int.reduceMul, Int.reduceNeg, if_false]
      rfl
    by_cases e10 : m = 10
    · obtain ⟨p, S2, e2, p1, p2, d2⟩ := hc1 R S1 g 1 d1 hg ho rfl
      obtain ⟨q, S3, e3, q1, q2, d3⟩ := ih R S2 g (dp - 1) asks d2 hg ho hdp' ha
      refine ⟨.n2 .until p q, S3, ?_, ⟨p1, q1⟩, by show max p.hgt q.hgt + 1 ≤ _; omega, d3⟩
      simp -implicitDefEqProofs only [sqF_nx, sqF_ret, sqF_brk, sqF_ct, sqF_exc, sbF_ok, sbF_exc, ifF_t, ifF_f, dSeq_ap, dSkip_ap, dAsg_ap, dAsgO_ap, dEx_ap, dRet_ap, dRetN_ap, dIfS_ap, dBrk_ap, dCt_ap, dRaise_ap, dFz_ap, dFor_ap, forR_ok, forR_exc, forD_nil, dK_ap, cellV_fz, cellB_fz, cellB_ow, dVar_ap, dBor_ap, dOp2_ap, dOp1_ap, dAnd_ap, dOr_ap, dNot_ap, dNeg_ap, dIf_ap, andF_t, andF_f, orF_t, orF_f, notF_b, negF_i, iteF2_t, iteF2_f, dNil_ap, dCons_ap, seqF0, seqF1, seqF2, seqF3, seqF4, seqF5, dTup_ap, dLst_ap, dCall_ap, l2_add, l2_sub, l2_lt, l2_le, l2_gt, l2_ge, l2_eq, l2_ne, l2_tup20, l2_tup21, l1_abs, l1_int, l1_lenT, l1_lenL, l1_tupL, l1_tupT, l1_listS, l1_isI, l1_isB, l1_isT, dGcd_ap, gcdF_i, flo_ret, flo_nx, flo_exc, dSetN_ap, hasN0, chg0, setAt1, setAt2, setAt3, fin_some, rix0, rix1, rix2, rix3, pow1018, Nat.reduceSub, List.replicate, List.replicate_zero, bnd_ok, bnd_exc, List.getElem?_cons_zero, List.getElem?_cons_succ, List.set_cons_succ, List.set_cons_zero, Option.map_some, if_true, decide_true, decide_false, Bool.not_true, Bool.not_false, Int.reduceLT, Int.reduceLE, Int.reduceEq, Int.reduceSub, Int.reduceAdd, Int.reduceMul, Int.reduceNeg, if_false, hp, e10]
      rw [e2]
      simp -implicitDefEqProofs only [sqF_nx, sqF_ret, sqF_brk, sqF_ct, sqF_exc, sbF_ok, sbF_exc, ifF_t, ifF_f, dSeq_ap, dSkip_ap, dAsg_ap, dAsgO_ap, dEx_ap, dRet_ap, dRetN_ap, dIfS_ap, dBrk_ap, dCt_ap, dRaise_ap, dFz_ap, dFor_ap, forR_ok, forR_exc, forD_nil, dK_ap, cellV_fz, cellB_fz, cellB_ow, dVar_ap, dBor_ap, dOp2_ap, dOp1_ap, dAnd_ap, dOr_ap, dNot_ap, dNeg_ap, dIf_ap, andF_t, andF_f, orF_t, orF_f, notF_b, negF_i, iteF2_t, iteF2_f, dNil_ap, dCons_ap, seqF0, seqF1, seqF2, seqF3, seqF4, seqF5, dTup_ap, dLst_ap, dCall_ap, l2_add, l2_sub, l2_lt, l2_le, l2_gt, l2_ge, l2_eq, l2_ne, l2_tup20, l2_tup21, l1_abs, l1_int, l1_lenT, l1_lenL, l1_tupL, l1_tupT, l1_listS, l1_isI, l1_isB, l1_isT, dGcd_ap, gcdF_i, flo_ret, flo_nx, flo_exc, dSetN_ap, hasN0, chg0, setAt1, setAt2, setAt3, fin_some, rix0, rix1, rix2, rix3, pow1018, Nat.reduceSub, List.replicate, List.replicate_zero, bnd_ok, bnd_exc, List.getElem?_cons_zero, List.getElem?_cons_succ, List.set_cons_succ, List.set_cons_zero, Option.map_some, if_true, decide_true, decide_false, Bool.not_true, Bool.not_false, Int.reduceLT, Int.reduceLE, Int.reduceEq, Int.reduceSub, Int.reduceAdd, Int.reduceMul, Int.reduceNeg, if_false]
      rw [e3]
      simp -implicitDefEqProofs only [sqF_nx, sqF_ret, sqF_brk, sqF_ct, sqF_exc, sbF_ok, sbF_exc, ifF_t, ifF_f, dSeq_ap, dSkip_ap, dAsg_ap, dAsgO_ap, dEx_ap, dRet_ap, dRetN_ap, dIfS_ap, dBrk_ap, dCt_ap, dRaise_ap, dFz_ap, dFor_ap, forR_ok, forR_exc, forD_nil, dK_ap, cellV_fz, cellB_fz, cellB_ow, dVar_ap, dBor_ap, dOp2_ap, dOp1_ap, dAnd_ap, dOr_ap, dNot_ap, dNeg_ap, dIf_ap, andF_t, andF_f, orF_t, orF_f, notF_b, negF_i, iteF2_t, iteF2_f, dNil_ap, dCons_ap, seqF0, seqF1, seqF2, seqF3, seqF4, seqF5, dTup_ap, dLst_ap, dCall_ap, l2_add, l2_sub, l2_lt, l2_le, l2_gt, l2_ge, l2_eq, l2_ne, l2_tup20, l2_tup21, l1_abs, l1_int, l1_lenT, l1_lenL, l1_tupL, l1_tupT, l1_listS, l1_isI, l1_isB, l1_isT, dGcd_ap, gcdF_i, flo_ret, flo_nx, flo_exc, dSetN_ap, hasN0, chg0, setAt1, setAt2, setAt3, fin_some, rix0, rix1, rix2, rix3, pow1018, Nat.reduceSub, List.replicate, List.replicate_zero, bnd_ok, bnd_exc, List.getElem?_cons_zero, List.getElem?_cons_succ, List.set_cons_succ, List.set_cons_zero, Option.map_some, if_true, decide_true, decide_false, Bool.not_true, Bool.not_false, Int.reduceLT, Int.reduceLE, Int.reduceEq, Int.reduceSub, Int.reduceAdd, Int.reduceMul, Int.reduceNeg, if_false]
      rfl
    by_cases e11 : m = 11
    · obtain ⟨p, S2, e2, p1, p2, d2⟩ := ih R S1 g (dp - 1) asks d1 hg ho hdp' ha
      refine ⟨.n1 .later p, S2, ?_, p1, by show p.hgt + 1 ≤ _; omega, d2⟩
      simp -implicitDefEqProofs only [sqF_nx, sqF_ret, sqF_brk, sqF_ct, sqF_exc, sbF_ok, sbF_exc, ifF_t, ifF_f, dSeq_ap, dSkip_ap, dAsg_ap, dAsgO_ap, dEx_ap, dRet_ap, dRetN_ap, dIfS_ap, dBrk_ap, dCt_ap, dRaise_ap, dFz_ap, dFor_ap, forR_ok, forR_exc, forD_nil, dK_ap, cellV_fz, cellB_fz, cellB_ow, dVar_ap, dBor_ap, dOp2_ap, dOp1_ap, dAnd_ap, dOr_ap, dNot_ap, dNeg_ap, dIf_ap, andF_t, andF_f, orF_t, orF_f, notF_b, negF_i, iteF2_t, iteF2_f, dNil_ap, dCons_ap, seqF0, seqF1, seqF2, seqF3, seqF4, seqF5, dTup_ap, dLst_ap, dCall_ap, l2_add, l2_sub, l2_lt, l2_le, l2_gt, l2_ge, l2_eq, l2_ne, l2_tup20, l2_tup21, l1_abs, l1_int, l1_lenT, l1_lenL, l1_tupL, l1_tupT, l1_listS, l1_isI, l1_isB, l1_isT, dGcd_ap, gcdF_i, flo_ret, flo_nx, flo_exc, dSetN_ap, hasN0, chg0, setAt1, setAt2, setAt3, fin_some, rix0, rix1, rix2, rix3, pow1018, Nat.reduceSub, List.replicate, List.replicate_zero, bnd_ok, bnd_exc, List.getElem?_cons_zero, List.getElem?_cons_succ, List.set_cons_succ, List.set_cons_zero, Option.map_some, if_true, decide_true, decide_false, Bool.not_true, Bool.not_false, Int.reduceLT, Int.reduceLE, Int.reduceEq, Int.reduceSub, Int.reduceAdd, Int.reduceMul, Int.reduceNeg, if_false, hp, e11]
      rw [e2]
      simp -implicitDefEqProofs only [sqF_nx, sqF_ret, sqF_brk, sqF_ct, sqF_exc, sbF_ok, sbF_exc, ifF_t, ifF_f, dSeq_ap, dSkip_ap, dAsg_ap, dAsgO_ap, dEx_ap, dRet_ap, dRetN_ap, dIfS_ap, dBrk_ap, dCt_ap, dRaise_ap, dFz_ap, dFor_ap, forR_ok, forR_exc, forD_nil, dK_ap, cellV_fz, cellB_fz, cellB_ow, dVar_ap, dBor_ap, dOp2_ap, dOp1_ap, dAnd_ap, dOr_ap, dNot_ap, dNeg_ap, dIf_ap, andF_t, andF_f, orF_t, orF_f, notF_b, negF_i, iteF2_t, iteF2_f, dNil_ap, dCons_ap, seqF0, seqF1, seqF2, seqF3, seqF4, seqF5, dTup_ap, dLst_ap, dCall_ap, l2_add, l2_sub, l2_lt, l2_le, l2_gt, l2_ge, l2_eq, l2_ne, l2_tup20, l2_tup21, l1_abs, l1_int, l1_lenT, l1_lenL, l1_tupL, l1_tupT, l1_listS, l1_isI, l1_isB, l1_isT, dGcd_ap, gcdF_i, flo_ret, flo_nx, flo_exc, dSetN_ap, hasN0, chg0, setAt1, setAt2, setAt3, fin_some, rix0, rix1, rix2, rix3, pow1018, Nat.reduceSub, List.replicate, List.replicate_zero, bnd_ok, bnd_exc, List.getElem?_cons_zero, List.getElem?_cons_succ, List.set_cons_succ, List.set_cons_zero, Option.map_some, if_true, decide_true, decide_false, Bool.not_true, Bool.not_false, Int.reduceLT, Int.reduceLE, Int.reduceEq, Int.reduceSub, Int.reduceAdd, Int.reduceMul, Int.reduceNeg, if_false]
      rfl
    by_cases a0 : asks = 0
    · obtain ⟨x, y, S2, e2, x1, d2⟩ := hn9 R S1 d1
      obtain ⟨z, S3, e3, z1, z2, d3⟩ := ht9 R S2 g d2 hg ho
      refine ⟨.n2 .scale (.num x y) (.price .one z), S3, ?_, ⟨x1, z1, z2⟩, by show 2 ≤ _; omega, d3⟩
      simp -implicitDefEqProofs only [sqF_nx, sqF_ret, sqF_brk, sqF_ct, sqF_exc, sbF_ok, sbF_exc, ifF_t, ifF_f, dSeq_ap, dSkip_ap, dAsg_ap, dAsgO_ap, dEx_ap, dRet_ap, dRetN_ap, dIfS_ap, dBrk_ap, dCt_ap, dRaise_ap, dFz_ap, dFor_ap, forR_ok, forR_exc, forD_nil, dK_ap, cellV_fz, cellB_fz, cellB_ow, dVar_ap, dBor_ap, dOp2_ap, dOp1_ap, dAnd_ap, dOr_ap, dNot_ap, dNeg_ap, dIf_ap, andF_t, andF_f, orF_t, orF_f, notF_b, negF_i, iteF2_t, iteF2_f, dNil_ap, dCons_ap, seqF0, seqF1, seqF2, seqF3, seqF4, seqF5, dTup_ap, dLst_ap, dCall_ap, l2_add, l2_sub, l2_lt, l2_le, l2_gt, l2_ge, l2_eq, l2_ne, l2_tup20, l2_tup21, l1_abs, l1_int, l1_lenT, l1_lenL, l1_tupL, l1_tupT, l1_listS, l1_isI, l1_isB, l1_isT, dGcd_ap, gcdF_i, flo_ret, flo_nx, flo_exc, dSetN_ap, hasN0, chg0, setAt1, setAt2, setAt3, fin_some, rix0, rix1, rix2, rix3, pow1018, Nat.reduceSub, List.replicate, List.replicate_zero, bnd_ok, bnd_exc, List.getElem?_cons_zero, List.getElem?_cons_succ, List.set_cons_succ, List.set_cons_zero, Option.map_some, if_true, decide_true, decide_false, Bool.not_true, Bool.not_false, Int.reduceLT, Int.reduceLE, Int.reduceEq, Int.reduceSub, Int.reduceAdd, Int.reduceMul, Int.reduceNeg, if_false, hp, h0, hm2, hm5, hm7, e7, e8, e9, e10, e11, a0]
      rw [e2]
      simp -implicitDefEqProofs only [sqF_nx, sqF_ret, sqF_brk, sqF_ct, sqF_exc, sbF_ok, sbF_exc, ifF_t, ifF_f, dSeq_ap, dSkip_ap, dAsg_ap, dAsgO_ap, dEx_ap, dRet_ap, dRetN_ap, dIfS_ap, dBrk_ap, dCt_ap, dRaise_ap, dFz_ap, dFor_ap, forR_ok, forR_exc, forD_nil, dK_ap, cellV_fz, cellB_fz, cellB_ow, dVar_ap, dBor_ap, dOp2_ap, dOp1_ap, dAnd_ap, dOr_ap, dNot_ap, dNeg_ap, dIf_ap, andF_t, andF_f, orF_t, orF_f, notF_b, negF_i, iteF2_t, iteF2_f, dNil_ap, dCons_ap, seqF0, seqF1, seqF2, seqF3, seqF4, seqF5, dTup_ap, dLst_ap, dCall_ap, l2_add, l2_sub, l2_lt, l2_le, l2_gt, l2_ge, l2_eq, l2_ne, l2_tup20, l2_tup21, l1_abs, l1_int, l1_lenT, l1_lenL, l1_tupL, l1_tupT, l1_listS, l1_isI, l1_isB, l1_isT, dGcd_ap, gcdF_i, flo_ret, flo_nx, flo_exc, dSetN_ap, hasN0, chg0, setAt1, setAt2, setAt3, fin_some, rix0, rix1, rix2, rix3, pow1018, Nat.reduceSub, List.replicate, List.replicate_zero, bnd_ok, bnd_exc, List.getElem?_cons_zero, List.getElem?_cons_succ, List.set_cons_succ, List.set_cons_zero, Option.map_some, if_true, decide_true, decide_false, Bool.not_true, Bool.not_false, Int.reduceLT, Int.reduceLE, Int.reduceEq, Int.reduceSub, Int.reduceAdd, Int.reduceMul, Int.reduceNeg, if_false]
      rw [e3]
      simp -implicitDefEqProofs only [sqF_nx, sqF_ret, sqF_brk, sqF_ct, sqF_exc, sbF_ok, sbF_exc, ifF_t, ifF_f, dSeq_ap, dSkip_ap, dAsg_ap, dAsgO_ap, dEx_ap, dRet_ap, dRetN_ap, dIfS_ap, dBrk_ap, dCt_ap, dRaise_ap, dFz_ap, dFor_ap, forR_ok, forR_exc, forD_nil, dK_ap, cellV_fz, cellB_fz, cellB_ow, dVar_ap, dBor_ap, dOp2_ap, dOp1_ap, dAnd_ap, dOr_ap, dNot_ap, dNeg_ap, dIf_ap, andF_t, andF_f, orF_t, orF_f, notF_b, negF_i, iteF2_t, iteF2_f, dNil_ap, dCons_ap, seqF0, seqF1, seqF2, seqF3, seqF4, seqF5, dTup_ap, dLst_ap, dCall_ap, l2_add, l2_sub, l2_lt, l2_le, l2_gt, l2_ge, l2_eq, l2_ne, l2_tup20, l2_tup21, l1_abs, l1_int, l1_lenT, l1_lenL, l1_tupL, l1_tupT, l1_listS, l1_isI, l1_isB, l1_isT, dGcd_ap, gcdF_i, flo_ret, flo_nx, flo_exc, dSetN_ap, hasN0, chg0, setAt1, setAt2, setAt3, fin_some, rix0, rix1, rix2, rix3, pow1018, Nat.reduceSub, List.replicate, List.replicate_zero, bnd_ok, bnd_exc, List.getElem?_cons_zero, List.getElem?_cons_succ, List.set_cons_succ, List.set_cons_zero, Option.map_some, if_true, decide_true, decide_false, Bool.not_true, Bool.not_false, Int.reduceLT, Int.reduceLE, Int.reduceEq, Int.reduceSub, Int.reduceAdd, Int.reduceMul, Int.reduceNeg, if_false]
      rfl
    by_cases hm14 : m < 14
    · obtain ⟨p, S2, e2, p1, p2, d2⟩ := ih R S1 g (dp - 1) (asks - 1) d1 hg ho hdp' (by omega)
      obtain ⟨q, S3, e3, q1, q2, d3⟩ := ih R S2 g (dp - 1) 0 d2 hg ho hdp' (by decide)
      refine ⟨.n2 .or_ p q, S3, ?_, ⟨p1, q1⟩, by show max p.hgt q.hgt + 1 ≤ _; omega, d3⟩
      simp -implicitDefEqProofs only [sqF_nx, sqF_ret, sqF_brk, sqF_ct, sqF_exc, sbF_ok, sbF_exc, ifF_t, ifF_f, dSeq_ap, dSkip_ap, dAsg_ap, dAsgO_ap, dEx_ap, dRet_ap, dRetN_ap, dIfS_ap, dBrk_ap, dCt_ap, dRaise_ap, dFz_ap, dFor_ap, forR_ok, forR_exc, forD_nil, dK_ap, cellV_fz, cellB_fz, cellB_ow, dVar_ap, dBor_ap, dOp2_ap, dOp1_ap, dAnd_ap, dOr_ap, dNot_ap, dNeg_ap, dIf_ap, andF_t, andF_f, orF_t, orF_f, notF_b, negF_i, iteF2_t, iteF2_f, dNil_ap, dCons_ap, seqF0, seqF1, seqF2, seqF3, seqF4, seqF5, dTup_ap, dLst_ap, dCall_ap, l2_add, l2_sub, l2_lt, l2_le, l2_gt, l2_ge, l2_eq, l2_ne, l2_tup20, l2_tup21, l1_abs, l1_int, l1_lenT, l1_lenL, l1_tupL, l1_tupT, l1_listS, l1_isI, l1_isB, l1_isT, dGcd_ap, gcdF_i, flo_ret, flo_nx, flo_exc, dSetN_ap, hasN0, chg0, setAt1, setAt2, setAt3, fin_some, rix0, rix1, rix2, rix3, pow1018, Nat.reduceSub, List.replicate, List.replicate_zero, bnd_ok, bnd_exc, List.getElem?_cons_zero, List.getElem?_cons_succ, List.set_cons_succ, List.set_cons_zero, Option.map_some, if_true, decide_true, decide_false, Bool.not_true, Bool.not_false, Int.reduceLT, Int.reduceLE, Int.reduceEq, Int.reduceSub, Int.reduceAdd, Int.reduceMul, Int.reduceNeg, if_false, hp, h0, hm2, hm5, hm7, e7, e8, e9, e10, e11, a0, hm14]
      rw [e2]
      simp -implicitDefEqProofs only [sqF_nx, sqF_ret, sqF_brk, sqF_ct, sqF_exc, sbF_ok, sbF_exc, ifF_t, ifF_f, dSeq_ap, dSkip_ap, dAsg_ap, dAsgO_ap, dEx_ap, dRet_ap, dRetN_ap, dIfS_ap, dBrk_ap, dCt_ap, dRaise_ap, dFz_ap, dFor_ap, forR_ok, forR_exc, forD_nil, dK_ap, cellV_fz, cellB_fz, cellB_ow, dVar_ap, dBor_ap, dOp2_ap, dOp1_ap, dAnd_ap, dOr_ap, dNot_ap, dNeg_ap, dIf_ap, andF_t, andF_f, orF_t, orF_f, notF_b, negF_i, iteF2_t, iteF2_f, dNil_ap, dCons_ap, seqF0, seqF1, seqF2, seqF3, seqF4, seqF5, dTup_ap, dLst_ap, dCall_ap, l2_add, l2_sub, l2_lt, l2_le, l2_gt, l2_ge, l2_eq, l2_ne, l2_tup20, l2_tup21, l1_abs, l1_int, l1_lenT, l1_lenL, l1_tupL, l1_tupT, l1_listS, l1_isI, l1_isB, l1_isT, dGcd_ap, gcdF_i, flo_ret, flo_nx, flo_exc, dSetN_ap, hasN0, chg0, setAt1, setAt2, setAt3, fin_some, rix0, rix1, rix2, rix3, pow1018, Nat.reduceSub, List.replicate, List.replicate_zero, bnd_ok, bnd_exc, List.getElem?_cons_zero, List.getElem?_cons_succ, List.set_cons_succ, List.set_cons_zero, Option.map_some, if_true, decide_true, decide_false, Bool.not_true, Bool.not_false, Int.reduceLT, Int.reduceLE, Int.reduceEq, Int.reduceSub, Int.reduceAdd, Int.reduceMul, Int.reduceNeg, if_false]
      rw [e3]
      simp -implicitDefEqProofs only [sqF_nx, sqF_ret, sqF_brk, sqF_ct, sqF_exc, sbF_ok, sbF_exc, ifF_t, ifF_f, dSeq_ap, dSkip_ap, dAsg_ap, dAsgO_ap, dEx_ap, dRet_ap, dRetN_ap, dIfS_ap, dBrk_ap, dCt_ap, dRaise_ap, dFz_ap, dFor_ap, forR_ok, forR_exc, forD_nil, dK_ap, cellV_fz, cellB_fz, cellB_ow, dVar_ap, dBor_ap, dOp2_ap, dOp1_ap, dAnd_ap, dOr_ap, dNot_ap, dNeg_ap, dIf_ap, andF_t, andF_f, orF_t, orF_f, notF_b, negF_i, iteF2_t, iteF2_f, dNil_ap, dCons_ap, seqF0, seqF1, seqF2, seqF3, seqF4, seqF5, dTup_ap, dLst_ap, dCall_ap, l2_add, l2_sub, l2_lt, l2_le, l2_gt, l2_ge, l2_eq, l2_ne, l2_tup20, l2_tup21, l1_abs, l1_int, l1_lenT, l1_lenL, l1_tupL, l1_tupT, l1_listS, l1_isI, l1_isB, l1_isT, dGcd_ap, gcdF_i, flo_ret, flo_nx, flo_exc, dSetN_ap, hasN0, chg0, setAt1, setAt2, setAt3, fin_some, rix0, rix1, rix2, rix3, pow1018, Nat.reduceSub, List.replicate, List.replicate_zero, bnd_ok, bnd_exc, List.getElem?_cons_zero, List.getElem?_cons_succ, List.set_cons_succ, List.set_cons_zero, Option.map_some, if_true, decide_true, decide_false, Bool.not_true, Bool.not_false, Int.reduceLT, Int.reduceLE, Int.reduceEq, Int.reduceSub, Int.reduceAdd, Int.reduceMul, Int.reduceNeg, if_false]
      rfl
    · obtain ⟨x, S2, e2, x1, x2, d2⟩ := ht9 R S1 3 d1 (by decide) (by decide +kernel)
      obtain ⟨q, S3, e3, q1, q2, d3⟩ := ih R S2 g (dp - 1) 0 d2 hg ho hdp' (by decide)
      refine ⟨.time .early x q, S3, ?_, ⟨x1, x2, q1⟩, by show q.hgt + 1 ≤ _; omega, d3⟩
      simp -implicitDefEqProofs only [sqF_nx, sqF_ret, sqF_brk, sqF_ct, sqF_exc, sbF_ok, sbF_exc, ifF_t, ifF_f, dSeq_ap, dSkip_ap, dAsg_ap, dAsgO_ap, dEx_ap, dRet_ap, dRetN_ap, dIfS_ap, dBrk_ap, dCt_ap, dRaise_ap, dFz_ap, dFor_ap, forR_ok, forR_exc, forD_nil, dK_ap, cellV_fz, cellB_fz, cellB_ow, dVar_ap, dBor_ap, dOp2_ap, dOp1_ap, dAnd_ap, dOr_ap, dNot_ap, dNeg_ap, dIf_ap, andF_t, andF_f, orF_t, orF_f, notF_b, negF_i, iteF2_t, iteF2_f, dNil_ap, dCons_ap, seqF0, seqF1, seqF2, seqF3, seqF4, seqF5, dTup_ap, dLst_ap, dCall_ap, l2_add, l2_sub, l2_lt, l2_le, l2_gt, l2_ge, l2_eq, l2_ne, l2_tup20, l2_tup21, l1_abs, l1_int, l1_lenT, l1_lenL, l1_tupL, l1_tupT, l1_listS, l1_isI, l1_isB, l1_isT, dGcd_ap, gcdF_i, flo_ret, flo_nx, flo_exc, dSetN_ap, hasN0, chg0, setAt1, setAt2, setAt3, fin_some, rix0, rix1, rix2, rix3, pow1018, Nat.reduceSub, List.replicate, List.replicate_zero, bnd_ok, bnd_exc, List.getElem?_cons_zero, List.getElem?_cons_succ, List.set_cons_succ, List.set_cons_zero, Option.map_some, if_true, decide_true, decide_false, Bool.not_true, Bool.not_false, Int.reduceLT, Int.reduceLE, Int.reduceEq, Int.reduceSub, Int.reduceAdd, Int.reduceMul, Int.reduceNeg, if_false, hp, h0, hm2, hm5, hm7, e7, e8, e9, e10, e11, a0, hm14]
      rw [e2]
      simp -implicitDefEqProofs only [sqF_nx, sqF_ret, sqF_brk, sqF_ct, sqF_exc, sbF_ok, sbF_exc, ifF_t, ifF_f, dSeq_ap, dSkip_ap, dAsg_ap, dAsgO_ap, dEx_ap, dRet_ap, dRetN_ap, dIfS_ap, dBrk_ap, dCt_ap, dRaise_ap, dFz_ap, dFor_ap, forR_ok, forR_exc, forD_nil, dK_ap, cellV_fz, cellB_fz, cellB_ow, dVar_ap, dBor_ap, dOp2_ap, dOp1_ap, dAnd_ap, dOr_ap, dNot_ap, dNeg_ap, dIf_ap, andF_t, andF_f, orF_t, orF_f, notF_b, negF_i, iteF2_t, iteF2_f, dNil_ap, dCons_ap, seqF0, seqF1, seqF2, seqF3, seqF4, seqF5, dTup_ap, dLst_ap, dCall_ap, l2_add, l2_sub, l2_lt, l2_le, l2_gt, l2_ge, l2_eq, l2_ne, l2_tup20, l2_tup21, l1_abs, l1_int, l1_lenT, l1_lenL, l1_tupL, l1_tupT, l1_listS, l1_isI, l1_isB, l1_isT, dGcd_ap, gcdF_i, flo_ret, flo_nx, flo_exc, dSetN_ap, hasN0, chg0, setAt1, setAt2, setAt3, fin_some, rix0, rix1, rix2, rix3, pow1018, Nat.reduceSub, List.replicate, List.replicate_zero, bnd_ok, bnd_exc, List.getElem?_cons_zero, List.getElem?_cons_succ, List.set_cons_succ, List.set_cons_zero, Option.map_some, if_true, decide_true, decide_false, Bool.not_true, Bool.not_false, Int.reduceLT, Int.reduceLE, Int.reduceEq, Int.reduceSub, Int.reduceAdd, Int.reduceMul, Int.reduceNeg, if_false]
      rw [e3]
      simp -implicitDefEqProofs only [sqF_nx, sqF_ret, sqF_brk, sqF_ct, sqF_exc, sbF_ok, sbF_exc, ifF_t, ifF_f, dSeq_ap, dSkip_ap, dAsg_ap, dAsgO_ap, dEx_ap, dRet_ap, dRetN_ap, dIfS_ap, dBrk_ap, dCt_ap, dRaise_ap, dFz_ap, dFor_ap, forR_ok, forR_exc, forD_nil, dK_ap, cellV_fz, cellB_fz, cellB_ow, dVar_ap, dBor_ap, dOp2_ap, dOp1_ap, dAnd_ap, dOr_ap, dNot_ap, dNeg_ap, dIf_ap, andF_t, andF_f, orF_t, orF_f, notF_b, negF_i, iteF2_t, iteF2_f, dNil_ap, dCons_ap, seqF0, seqF1, seqF2, seqF3, seqF4, seqF5, dTup_ap, dLst_ap, dCall_ap, l2_add, l2_sub, l2_lt, l2_le, l2_gt, l2_ge, l2_eq, l2_ne, l2_tup20, l2_tup21, l1_abs, l1_int, l1_lenT, l1_lenL, l1_tupL, l1_tupT, l1_listS, l1_isI, l1_isB, l1_isT, dGcd_ap, gcdF_i, flo_ret, flo_nx, flo_exc, dSetN_ap, hasN0, chg0, setAt1, setAt2, setAt3, fin_some, rix0, rix1, rix2, rix3, pow1018, Nat.reduceSub, List.replicate, List.replicate_zero, bnd_ok, bnd_exc, List.getElem?_cons_zero, List.getElem?_cons_succ, List.set_cons_succ, List.set_cons_zero, Option.map_some, if_true, decide_true, decide_false, Bool.not_true, Bool.not_false, Int.reduceLT, Int.reduceLE, Int.reduceEq, Int.reduceSub, Int.reduceAdd, Int.reduceMul, Int.reduceNeg, if_false]
      rfl
end Py
/-! What holds behind an expression, a statement, a loop. -/
namespace Py
open L2

def Sat {α : Type} (r : Res α) (Q : α → Store → Prop) (E : Err → Store → Prop) : Prop := match r with
  | .ok v S => Q v S
  | .exc e S => E e S
  | .bad => False
structure FE where
  nx : Env → Store → Prop
  rt : PV → Store → Prop
  ex : Err → Env → Store → Prop
  bk : Env → Store → Prop
  ct : Env → Store → Prop
def SatF (fl : Flo) (D : FE) : Prop := match fl with
  | .nx ρ S => D.nx ρ S
  | .ret v S => D.rt v S
  | .exc e ρ S => D.ex e ρ S
  | .brk ρ S => D.bk ρ S
  | .ct ρ S => D.ct ρ S
  | .bad => False
abbrev noE : Err → Store → Prop := fun _ _ => False
section
variable {α γ : Type} {r : Res α} {Q Q' : α → Store → Prop} {E E' : Err → Store → Prop} {S S' : Store} {a : α}
@[simp] theorem Sat_ok : Sat (.ok a S) Q E = Q a S := rfl
@[simp] theorem Sat_exc {e : Err} : Sat (.exc e S : Res α) Q E = E e S := rfl
@[simp] theorem Sat_bnd {f : α → Store → Res γ} {Q : γ → Store → Prop} : Sat (bnd r f) Q E = Sat r (fun v S => Sat (f v S) Q E) E := by cases r <;> rfl
theorem Sat.imp (h : Sat r Q E) (i : ∀ v S, Q v S → Q' v S) (j : ∀ e S, E e S → E' e S) : Sat r Q' E' := by
  cases r with
  | ok v S => exact i v S h
  | exc e S => exact j e S h
  | bad => exact h
theorem Sat.to (h : Sat r Q E) (i : ∀ v S, Q v S → Q' v S) : Sat r Q' E := h.imp i fun _ _ h => h
theorem Sat.n (h : Sat r Q noE) (i : ∀ v S, Q v S → Q' v S) : Sat r Q' E := h.imp i fun _ _ h => h.elim
theorem Sat.eq (h : Sat r (fun v S' => v = a ∧ S' = S) noE) : r = .ok a S := by
  cases r with
  | ok v S' => obtain ⟨h1, h2⟩ := h; subst h1; subst h2; rfl
  | exc e S => exact h.elim
  | bad => exact h.elim
theorem Sat.ex (h : Sat r Q noE) : ∃ v S, r = .ok v S ∧ Q v S := by
  cases r with
  | ok v S => exact ⟨v, S, rfl, h⟩
  | exc e S => exact h.elim
  | bad => exact h.elim
theorem Sat.eqE {e : Err} (h : Sat r (fun _ _ => False) (fun e' S' => e' = e ∧ S' = S)) : r = .exc e S := by
  cases r with
  | ok v S' => exact h.elim
  | exc e S => obtain ⟨h1, h2⟩ := h; subst h1; subst h2; rfl
  | bad => exact h.elim
end
section
variable {Q : PV → Store → Prop} {E : Err → Store → Prop} {D : FE} {S S' : Store} {ρ ρ' : Env} {v : PV} {fl : Flo} {b c : Dns} {k : PV → Dns} {e : Err} {t : Dt} {r : Res PV}
@[simp] theorem Sat_flo : Sat (flo fl) Q E = SatF fl ⟨fun _ S => Q .non S, Q, fun e _ S => E e S, fun _ _ => False, fun _ _ => False⟩ := by cases fl <;> rfl
@[simp] theorem SatF_nx : SatF (.nx ρ S) D = D.nx ρ S := rfl
@[simp] theorem SatF_ret : SatF (.ret v S) D = D.rt v S := rfl
@[simp] theorem SatF_exc : SatF (.exc e ρ S) D = D.ex e ρ S := rfl
@[simp] theorem SatF_brk : SatF (.brk ρ S) D = D.bk ρ S := rfl
@[simp] theorem SatF_ct : SatF (.ct ρ S) D = D.ct ρ S := rfl
@[simp] theorem SatF_sq : SatF (sqF fl b) D = SatF fl { D with nx := fun ρ S => SatF (b ρ S) D } := by cases fl <;> rfl
@[simp] theorem SatF_sb : SatF (sbF r k ρ) D = Sat r (fun v S => SatF (k v ρ S) D) (fun e S => D.ex e ρ S) := by cases r <;> rfl
@[simp] theorem SatF_forR {w : Res (List PV)} : SatF (forR w t b ρ) D = Sat w (fun vs S => SatF (forD t b vs ρ S) D) (fun e S => D.ex e ρ S) := by cases w <;> rfl
@[simp] theorem SatF_if {p : Bool} : SatF (ifF (.bl p) b c ρ S) D = if p = true then SatF (b ρ S) D else SatF (c ρ S) D := by cases p <;> rfl
@[simp] theorem Sat_and {p : Bool} {f : Store → Res PV} : Sat (andF (.bl p) S f) Q E = if p = true then Sat (f S) Q E else Q (.bl false) S := by cases p <;> rfl
@[simp] theorem Sat_or {p : Bool} {f : Store → Res PV} : Sat (orF (.bl p) S f) Q E = if p = true then Q (.bl true) S else Sat (f S) Q E := by cases p <;> rfl
@[simp] theorem Sat_ite {p : Bool} {f g : Store → Res PV} : Sat (iteF2 (.bl p) S f g) Q E = if p = true then Sat (f S) Q E else Sat (g S) Q E := by cases p <;> rfl
theorem SatF.imp {D' : FE} (h : SatF fl D) (i : ∀ ρ S, D.nx ρ S → D'.nx ρ S) (i2 : ∀ v S, D.rt v S → D'.rt v S) (i3 : ∀ e ρ S, D.ex e ρ S → D'.ex e ρ S) (i4 : ∀ ρ S, D.bk ρ S → D'.bk ρ S) (i5 : ∀ ρ S, D.ct ρ S → D'.ct ρ S) : SatF fl D' := by
  cases fl with
  | nx ρ S => exact i _ _ h
  | ret ρ S => exact i2 _ _ h
  | exc e ρ S => exact i3 _ _ _ h
  | brk ρ S => exact i4 _ _ h
  | ct ρ S => exact i5 _ _ h
  | bad => exact h
/-! ### for -/
/-- the walk by an invariant: what is ahead, what is behind -/
theorem SatF_for {α : Type} (en : α → PV) (I : List α → List α → Env → Store → Prop) : ∀ (l dn : List α) (ρ : Env) (S : Store), I dn l ρ S →
    (∀ dn x l ρ S, I dn (x :: l) ρ S → ∃ ρ1, t (en x) ρ = some ρ1 ∧ SatF (b ρ1 S) { D with nx := I (dn ++ [x]) l, ct := I (dn ++ [x]) l, bk := D.nx }) →
    (∀ dn ρ S, I dn [] ρ S → D.nx ρ S) → SatF (forD t b (l.map en) ρ S) D
  | [], dn, ρ, S, h, st, fin => fin dn ρ S h
  | x :: l, dn, ρ, S, h, st, fin => by
    obtain ⟨ρ1, h1, h2⟩ := st dn x l ρ S h
    rw [List.map_cons]
    unfold forD
    rw [h1]
    simp only []
    revert h2
    cases b ρ1 S with
    | nx ρ2 S2 => exact fun h2 => SatF_for en I l (dn ++ [x]) ρ2 S2 h2 st fin
    | ct ρ2 S2 => exact fun h2 => SatF_for en I l (dn ++ [x]) ρ2 S2 h2 st fin
    | brk ρ2 S2 => exact fun h2 => h2
    | ret v S2 => exact fun h2 => h2
    | exc e ρ2 S2 => exact fun h2 => h2
    | bad => exact fun h2 => h2
/-- over PVs as they stand -/
theorem SatF_forV (I : List PV → List PV → Env → Store → Prop) (l dn : List PV) (h : I dn l ρ S)
    (st : ∀ dn x l ρ S, I dn (x :: l) ρ S → ∃ ρ1, t x ρ = some ρ1 ∧ SatF (b ρ1 S) { D with nx := I (dn ++ [x]) l, ct := I (dn ++ [x]) l, bk := D.nx })
    (fin : ∀ dn ρ S, I dn [] ρ S → D.nx ρ S) : SatF (forD t b l ρ S) D := by
  have := SatF_for (t := t) (b := b) (D := D) (fun x => x) I l dn ρ S h st fin
  rwa [List.map_id''] at this
  intro x; rfl
/-! ### while -/
theorem SatF_whN {c : Dn} {b : Dns} (I : Nat → Env → Store → Prop)
    (st : ∀ n ρ S, I n ρ S → Sat (c ρ S) (fun v S1 => (v = .bl true ∧ SatF (b ρ S1) { D with nx := fun ρ S => ∃ m, m < n ∧ I m ρ S, ct := fun ρ S => ∃ m, m < n ∧ I m ρ S, bk := D.nx }) ∨ (v = .bl false ∧ D.nx ρ S1)) (fun e S => D.ex e ρ S)) :
    ∀ n ρ S, I n ρ S → SatF (whN c b (n + 1) ρ S) D := by
  intro n
  induction n using Nat.strongRecOn with
  | _ n ih =>
    intro ρ S h
    have hs := st n ρ S h
    have lift : ∀ ρ S, (∃ m, m < n ∧ I m ρ S) → SatF (whN c b n ρ S) D := fun ρ S ⟨m, hm, q⟩ => by
      have q1 := ih m hm ρ S q
      rw [whN_le c b (show m + 1 ≤ n by omega) (by intro z; rw [z] at q1; exact q1)]
      exact q1
    unfold whN
    revert hs
    cases c ρ S with
    | bad => exact fun hs => hs
    | exc e S1 => exact fun hs => hs
    | ok v S1 =>
      rintro (⟨rfl, hs⟩ | ⟨rfl, hs⟩)
      · simp only []
        revert hs
        cases b ρ S1 with
        | nx ρ2 S2 => exact fun hs => lift ρ2 S2 hs
        | ct ρ2 S2 => exact fun hs => lift ρ2 S2 hs
        | brk ρ2 S2 => exact fun hs => hs
        | ret v S2 => exact fun hs => hs
        | exc e ρ2 S2 => exact fun hs => hs
        | bad => exact fun hs => hs
      · exact hs
theorem SatF_while {c : Dn} {b : Dns} (n : Nat) (I : Nat → Env → Store → Prop) (h : I n ρ S)
    (st : ∀ n ρ S, I n ρ S → Sat (c ρ S) (fun v S1 => (v = .bl true ∧ SatF (b ρ S1) { D with nx := fun ρ S => ∃ m, m < n ∧ I m ρ S, ct := fun ρ S => ∃ m, m < n ∧ I m ρ S, bk := D.nx }) ∨ (v = .bl false ∧ D.nx ρ S1)) (fun e S => D.ex e ρ S)) :
    SatF (dWh c b ρ S) D := by
  have q := SatF_whN I st n ρ S h
  rw [dWh_of (n := n + 1) c b (by intro z; rw [z] at q; exact q)]
  exact q
/-! ### comprehensions -/
theorem Sat_lc {w : Dw} {t : Dt} {c e : Dn} {own : List Nat} : Sat (dLc w t c e own ρ S) Q E = Sat (w ρ S) (fun vs S1 => Sat (compD t c e vs (wipeE ρ own) S1) (fun ys S2 => Q (.lst ys) S2) fun _ _ => False) E := by
  unfold dLc
  rw [Sat_bnd]
  congr 1
  funext vs S1
  cases compD t c e vs (wipeE ρ own) S1 <;> rfl
theorem comp_filter {α : Type} {t : Dt} {c e : Dn} (en f : α → PV) (p : α → Bool) : ∀ l : List α, (∀ x ∈ l, ∃ ρ1, t (en x) ρ = some ρ1 ∧ c ρ1 S = .ok (.bl (p x)) S ∧ (p x = true → e ρ1 S = .ok (f x) S)) → compD t c e (l.map en) ρ S = .ok ((l.filter p).map f) S
  | [], _ => rfl
  | x :: l, h => by
    obtain ⟨ρ1, h1, h2, h3⟩ := h x List.mem_cons_self
    have ih := comp_filter (t := t) (c := c) (e := e) en f p l fun y hy => h y (List.mem_cons_of_mem _ hy)
    rw [List.map_cons]
    unfold compD
    rw [h1]; simp only []
    rw [h2]
    cases hp : p x with
    | true => simp only [h3 hp, ih, List.filter_cons, hp, if_true, List.map_cons]
    | false => simp only [ih, List.filter_cons, hp, Bool.false_eq_true, if_false]
theorem comp_map {α : Type} {t : Dt} {e : Dn} (en f : α → PV) (l : List α) (h : ∀ x ∈ l, ∃ ρ1, t (en x) ρ = some ρ1 ∧ e ρ1 S = .ok (f x) S) : compD t dTrue e (l.map en) ρ S = .ok (l.map f) S := by
  have := comp_filter (t := t) (c := dTrue) (e := e) (ρ := ρ) (S := S) en f (fun _ => true) l fun x hx => by
    obtain ⟨ρ1, h1, h2⟩ := h x hx
    exact ⟨ρ1, h1, rfl, fun _ => h2⟩
  rw [this]
  congr 2
  simp
/-- with draws -/
theorem comp_draw {α β : Type} {ρ : Env} {t : Dt} {e : Dn} (en : α → PV) (f : β → PV) (P : β → Prop) (I : Store → Prop) : ∀ (l : List α) (S : Store), I S → (∀ x ∈ l, ∀ S, I S → ∃ ρ1, t (en x) ρ = some ρ1 ∧ Sat (e ρ1 S) (fun v S' => ∃ y, v = f y ∧ P y ∧ I S') noE) →
    ∃ (ys : List β) (S' : Store), compD t dTrue e (l.map en) ρ S = .ok (ys.map f) S' ∧ ys.length = l.length ∧ (∀ y ∈ ys, P y) ∧ I S'
  | [], S, hI, _ => ⟨[], S, rfl, rfl, (fun _ h => (nomatch h)), hI⟩
  | x :: l, S, hI, h => by
    obtain ⟨ρ1, h1, h2⟩ := h x List.mem_cons_self S hI
    obtain ⟨v, S1, e1, y, rfl, hy, hI1⟩ := h2.ex
    obtain ⟨ys, S', e2, e3, e4, e5⟩ := comp_draw (t := t) (e := e) (ρ := ρ) en f P I l S1 hI1 fun z hz => h z (List.mem_cons_of_mem _ hz)
    refine ⟨y :: ys, S', ?_, by rw [List.length_cons, e3, List.length_cons], fun z hz => ?_, e5⟩
    · rw [List.map_cons]
      unfold compD
      rw [h1]; simp only []
      have : dTrue ρ1 S = .ok (.bl true) S := rfl
      rw [this]
      simp only [e1, e2, List.map_cons]
    · rcases List.mem_cons.mp hz with rfl | hz
      · exact hy
      · exact e4 z hz
/-! ### ranges -/
theorem rng0 (n : Nat) : rng 0 (n : Int) = (List.range n).map fun (j : Nat) => PV.int j := by
  unfold rng
  rw [Int.sub_zero, Int.toNat_natCast]
  refine List.map_congr_left fun i _ => ?_
  rw [Int.zero_add]
theorem rng_nn {a n : Nat} {hi : Int} (h : hi = a + n) : rng (a : Int) hi = (List.range' a n).map fun (j : Nat) => PV.int j := by
  subst h
  unfold rng
  have e : ((a : Int) + n - a).toNat = n := by omega
  rw [e, List.range'_eq_map_range, List.map_map]
  refine List.map_congr_left fun i _ => ?_
  show PV.int ((a : Int) + i) = PV.int ((a + i : Nat) : Int)
  congr 1
def rng1F (v : PV) (S : Store) : Res (List PV) := match v with
  | .int j => if decide (-(2 ^ 62) ≤ j) && decide (j < 2 ^ 24) then .ok (rng 0 j) S else .bad
  | _ => .bad
def rng2F (v u : PV) (S : Store) : Res (List PV) := match v, u with
  | .int i, .int j => if decide (-(2 ^ 62) ≤ i) && decide (i < 2 ^ 62) && decide (-(2 ^ 62) ≤ j) && decide (j < 2 ^ 62) && decide (j - i ≤ 2 ^ 24) then .ok (rng i j) S else .bad
  | _, _ => .bad
variable {m m' : Dn}
theorem rng1_ap : dRng1 m ρ S = bnd (m ρ S) fun v S1 => rng1F v S1 := rfl
theorem rng2_ap' : dRng2 m m' ρ S = bnd (m ρ S) fun v S1 => bnd (m' ρ S1) fun u S2 => rng2F v u S2 := rfl
theorem rng1F_z {i : Int} (h0 : -(2 ^ 62) ≤ i) (h : i < 2 ^ 24) : rng1F (.int i) S = .ok (rng 0 i) S := by
  show (if (decide (-(2 ^ 62) ≤ i) && decide (i < 2 ^ 24)) = true then Res.ok (rng 0 i) S else .bad) = _
  rw [if_pos (by rw [decide_eq_true h0, decide_eq_true h]; rfl)]
theorem rng1F_n {n : Nat} (h : n < 2 ^ 24) : rng1F (.int (n : Int)) S = .ok ((List.range n).map fun (j : Nat) => PV.int j) S := by
  rw [rng1F_z (by omega) (by omega), rng0]
theorem rng1F_i {i : Int} (h0 : 0 ≤ i) (h : i < 2 ^ 24) : rng1F (.int i) S = .ok ((List.range i.toNat).map fun (j : Nat) => PV.int j) S := by
  have e : i = (i.toNat : Int) := by omega
  have q := rng1F_n (S := S) (n := i.toNat) (by omega)
  rw [← e] at q
  exact q
theorem rng2F_z {i j : Int} (h1 : -(2 ^ 62) ≤ i) (h2 : i < 2 ^ 62) (h3 : -(2 ^ 62) ≤ j) (h4 : j < 2 ^ 62) (h5 : j - i ≤ 2 ^ 24) : rng2F (.int i) (.int j) S = .ok (rng i j) S := by
  show (if (decide (-(2 ^ 62) ≤ i) && decide (i < 2 ^ 62) && decide (-(2 ^ 62) ≤ j) && decide (j < 2 ^ 62) && decide (j - i ≤ 2 ^ 24)) = true then Res.ok (rng i j) S else .bad) = _
  rw [if_pos (by rw [decide_eq_true h1, decide_eq_true h2, decide_eq_true h3, decide_eq_true h4, decide_eq_true h5]; rfl)]
theorem rng2F_n {a b : Nat} (h : a ≤ b) (hb : b < 2 ^ 24) : rng2F (.int (a : Int)) (.int (b : Int)) S = .ok ((List.range' a (b - a)).map fun (j : Nat) => PV.int j) S := by
  rw [rng2F_z (by omega) (by omega) (by omega) (by omega) (by omega), rng_nn (n := b - a) (by omega)]
/-! ### what is walked -/
def itemsF (v : PV) (S : Store) : Res (List PV) := match itemsOf v with
  | some xs => .ok xs S
  | none => .bad
theorem seqI_ap : dSeqI m ρ S = bnd (m ρ S) fun v S1 => itemsF v S1 := rfl
theorem items_t {xs : List PV} : itemsF (.tup xs) S = .ok xs S := rfl
theorem items_l {xs : List PV} : itemsF (.lst xs) S = .ok xs S := rfl
/-! ### lists, tuples -/
theorem l2_addLs {xs ys : List PV} (h : xs.length + ys.length ≤ sz) : lift2 gAdd (.lst xs) (.lst ys) S = .ok (.lst (xs ++ ys)) S := by
  have e : gAdd (.lst xs) (.lst ys) S = some (.lst (xs ++ ys)) := by
    show (none : Option PV).or (none.or (none.or (if xs.length + ys.length ≤ sz then some (PV.lst (xs ++ ys)) else none))) = _
    rw [if_pos h]; rfl
  unfold lift2
  rw [e]
theorem l2_addLo {xs ys : List PV} (h : xs.length + ys.length ≤ sz) : lift2 gAddL (.lst xs) (.lst ys) S = .ok (.lst (xs ++ ys)) S := by
  show (match (if xs.length + ys.length ≤ sz then some (PV.lst (xs ++ ys)) else none) with | some z => Res.ok z S | none => .bad) = _
  rw [if_pos h]
theorem l2_addTs {xs ys : List PV} (h : xs.length + ys.length ≤ sz) : lift2 gAdd (.tup xs) (.tup ys) S = .ok (.tup (xs ++ ys)) S := by
  have e : gAdd (.tup xs) (.tup ys) S = some (.tup (xs ++ ys)) := by
    show (none : Option PV).or (none.or ((if xs.length + ys.length ≤ sz then some (PV.tup (xs ++ ys)) else none).or _)) = _
    rw [if_pos h]; rfl
  unfold lift2
  rw [e]
theorem atI_n {xs : List PV} {i : Nat} {v : PV} (h : xs[i]? = some v) : atI xs (i : Int) = some v := by
  have hl : i < xs.length := (List.getElem?_eq_some_iff.mp h).1
  unfold atI ixN
  rw [if_pos (by omega), if_pos (by omega)]
  simpa using h
theorem ixT {xs : List PV} {i : Nat} {v : PV} (h : xs[i]? = some v) : lift2 gIx (.tup xs) (.int (i : Int)) S = .ok v S := l2_tup (atI_n h)
theorem ixL {xs : List PV} {i : Nat} {v : PV} (h : xs[i]? = some v) : lift2 gIx (.lst xs) (.int (i : Int)) S = .ok v S := l2_lst (atI_n h)
theorem ixTi {xs : List PV} {i : Int} {v : PV} (h0 : 0 ≤ i) (h : xs[i.toNat]? = some v) : lift2 gIx (.tup xs) (.int i) S = .ok v S := by
  have : i = (i.toNat : Int) := by omega
  rw [this]; exact ixT h
theorem ixLi {xs : List PV} {i : Int} {v : PV} (h0 : 0 ≤ i) (h : xs[i.toNat]? = some v) : lift2 gIx (.lst xs) (.int i) S = .ok v S := by
  have : i = (i.toNat : Int) := by omega
  rw [this]; exact ixL h
@[simp] theorem ixT0 {x : PV} {xs : List PV} : lift2 gIx (.tup (x :: xs)) (.int 0) S = .ok x S := ixT (i := 0) rfl
@[simp] theorem ixT1 {x y : PV} {xs : List PV} : lift2 gIx (.tup (x :: y :: xs)) (.int 1) S = .ok y S := ixT (i := 1) rfl
@[simp] theorem ixT2 {x y z : PV} {xs : List PV} : lift2 gIx (.tup (x :: y :: z :: xs)) (.int 2) S = .ok z S := ixT (i := 2) rfl
@[simp] theorem ixT3 {x y z w : PV} {xs : List PV} : lift2 gIx (.tup (x :: y :: z :: w :: xs)) (.int 3) S = .ok w S := ixT (i := 3) rfl
@[simp] theorem ixL0 {x : PV} {xs : List PV} : lift2 gIx (.lst (x :: xs)) (.int 0) S = .ok x S := ixL (i := 0) rfl
@[simp] theorem ixL1 {x y : PV} {xs : List PV} : lift2 gIx (.lst (x :: y :: xs)) (.int 1) S = .ok y S := ixL (i := 1) rfl
@[simp] theorem ixL2 {x y z : PV} {xs : List PV} : lift2 gIx (.lst (x :: y :: z :: xs)) (.int 2) S = .ok z S := ixL (i := 2) rfl
theorem app_ap {i : Nat} {xs : List PV} {me : Dn} (hρ : ρ[i]? = some (.ow (.lst xs))) : dApp' i me ρ S = sbF (me ρ S) (fun v ρ S => fin (chg i (pushAt v) ρ S)) ρ := by
  have h1 : hasL i ρ S = true := by unfold hasL; rw [hρ]
  unfold dApp'
  rw [if_pos h1, sB_ap]
theorem chg_push {i : Nat} {xs : List PV} (hρ : ρ[i]? = some (.ow (.lst xs))) (hx : xs.length < sz) : fin (chg i (pushAt v) ρ S) = .nx (ρ.set i (.ow (.lst (xs ++ [v])))) S := by
  unfold chg; rw [hρ]
  show fin ((pushAt v xs).map _) = _
  unfold pushAt; rw [if_pos hx]; rfl
theorem part_ap : dPart m ρ S = bnd (m ρ S) fun v S1 => (match v with | .int i => .ok (some i) S1 | _ => .bad : Res (Option Int)) := rfl
theorem sl_ap {g : GS} {m : Dn} {lo hi : Py.Env → Store → Res (Option Int)} : dSl g m lo hi ρ S = bnd (m ρ S) fun v S1 => bnd (lo ρ S1) fun l S2 => bnd (hi ρ S2) fun h S3 => liftS g v l h S3 := rfl
theorem noPart_ap : dNoPart ρ S = .ok none S := rfl
theorem cut_to {xs : List PV} {k : Nat} (h : k ≤ xs.length) : cutP xs none (some (k : Int)) = xs.take k := by
  unfold cutP
  rw [HT.sIx_none, HT.sIx_nat, Nat.min_eq_left h]
  simp
theorem cut_from {xs : List PV} {k : Nat} (h : k ≤ xs.length) : cutP xs (some (k : Int)) none = xs.drop k := by
  unfold cutP
  rw [HT.sIx_none, HT.sIx_nat, Nat.min_eq_left h]
  rw [List.take_of_length_le (by rw [List.length_drop]; omega)]
theorem cut_mid {xs : List PV} {a b : Nat} (h : a ≤ b) (hb : b ≤ xs.length) : cutP xs (some (a : Int)) (some (b : Int)) = (xs.drop a).take (b - a) := by
  unfold cutP
  rw [HT.sIx_nat, HT.sIx_nat, Nat.min_eq_left hb, Nat.min_eq_left (by omega)]
theorem sl_lst {xs : List PV} {l h : Option Int} : liftS gSl (.lst xs) l h S = .ok (.lst (cutP xs l h)) S := rfl
theorem sl_tup {xs : List PV} {l h : Option Int} : liftS gSl (.tup xs) l h S = .ok (.tup (cutP xs l h)) S := rfl
@[simp] theorem tN_ap {i : Nat} : tN i v ρ = some (ρ.set i (.fz v)) := rfl
end
end Py
namespace Py
section
variable {S : Store}
theorem rng2F_e {i j : Int} {a b : Nat} (hi : i = (a : Int)) (hj : j = (b : Int)) (h : a ≤ b) (hb : b < 2 ^ 24) : rng2F (.int i) (.int j) S = .ok ((List.range' a (b - a)).map fun (j : Nat) => PV.int j) S := by
  subst hi; subst hj; exact rng2F_n h hb
theorem ixLe {xs : List PV} {i : Int} {n : Nat} {v : PV} (hi : i = (n : Int)) (h : xs[n]? = some v) : lift2 gIx (.lst xs) (.int i) S = .ok v S := by subst hi; exact ixL h
theorem ixTe {xs : List PV} {i : Int} {n : Nat} {v : PV} (hi : i = (n : Int)) (h : xs[n]? = some v) : lift2 gIx (.tup xs) (.int i) S = .ok v S := by subst hi; exact ixT h
end
end Py
namespace Py
open L2
section
variable {ρ : Env} {S : Store} {v : PV} {i : Nat} {xs : List PV} {f : List PV → Option (List PV)} {mi me : Dn}
/-! ### lists changed -/
def cellN : Option Cell → Bool
  | some (.ow _) => true
  | some (.fz _) => true
  | _ => false
@[simp] theorem hasN_eq : hasN i ρ = cellN ρ[i]? := by
  unfold hasN cellN; split <;> simp_all
@[simp] theorem cellN_ow : cellN (some (.ow v)) = true := rfl
@[simp] theorem cellN_fz : cellN (some (.fz v)) = true := rfl
def cellL (S : Store) : Option Cell → Bool
  | some (.ow (.lst _)) => true
  | some (.fz (.ref n)) => match S[n]? with
    | some (.lst _) => true
    | none => false
  | _ => false
@[simp] theorem hasL_eq : hasL i ρ S = cellL S ρ[i]? := by
  unfold hasL cellL; split <;> simp_all <;> rfl
@[simp] theorem cellL_ow : cellL S (some (.ow (.lst xs))) = true := rfl
def chgC (i : Nat) (f : List PV → Option (List PV)) (ρ : Env) (S : Store) : Option Cell → Option (Env × Store)
  | some (.ow (.lst xs)) => (f xs).map fun ys => (ρ.set i (.ow (.lst ys)), S)
  | some (.fz (.ref n)) => match S[n]? with
    | some (.lst xs) => (f xs).map fun ys => (ρ, S.set n (.lst ys))
    | none => none
  | _ => none
@[simp] theorem chg_eq : chg i f ρ S = chgC i f ρ S ρ[i]? := by
  unfold chg chgC; split <;> simp_all <;> rfl
@[simp] theorem chgC_ow : chgC i f ρ S (some (.ow (.lst xs))) = (f xs).map fun ys => (ρ.set i (.ow (.lst ys)), S) := rfl
@[simp] theorem app_eq : dApp' i me ρ S = if hasL i ρ S = true then sbF (me ρ S) (fun v ρ S => fin (chg i (pushAt v) ρ S)) ρ else .bad := rfl
@[simp] theorem fin_some' {p : Env × Store} : fin (some p) = .nx p.1 p.2 := rfl
theorem push_ok (h : xs.length < sz) : pushAt v xs = some (xs ++ [v]) := by unfold pushAt; rw [if_pos h]
theorem set_ok {k : Nat} (h : k < xs.length) : setAt (.int (k : Int)) v xs = some (xs.set k v) := by
  show (ixN xs.length (k : Int)).map (fun j => xs.set j v) = _
  unfold ixN
  rw [if_pos (by omega), if_pos (by omega)]
  simp
theorem rep_i {k : Int} (h1 : -(2 ^ 63) ≤ k) (h2 : k < 2 ^ 63) (h3 : [v].length * k.toNat ≤ sz) : lift2 gRepL (.lst [v]) (.int k) S = .ok (.lst (List.replicate k.toNat [v]).flatten) S := by
  show (match (if (decide (-(2 ^ 63) ≤ k) && decide (k < 2 ^ 63) && decide ([v].length * k.toNat ≤ sz)) = true then some (PV.lst (List.replicate k.toNat [v]).flatten) else none) with | some z => Res.ok z S | none => .bad) = _
  rw [if_pos (by rw [decide_eq_true h1, decide_eq_true h2, decide_eq_true h3]; rfl)]
theorem flat_rep (n : Nat) : (List.replicate n [v]).flatten = List.replicate n v := by
  induction n with
  | zero => rfl
  | succ n ih => rw [List.replicate_succ, List.flatten_cons, ih, List.replicate_succ]; rfl
theorem rep_one {n : Nat} (h : n ≤ sz) : lift2 gRepL (.lst [v]) (.int (n : Int)) S = .ok (.lst (List.replicate n v)) S := by
  have hz : n ≤ 16777216 := h
  rw [rep_i (by omega) (by omega) (by rw [List.length_singleton, Nat.one_mul, Int.toNat_natCast]; exact h), Int.toNat_natCast, flat_rep]
end
end Py
namespace Py
section
variable {ρ : Env} {v : PV} {i : Nat}
def fzC (i : Nat) (ρ : Env) : Option Cell → Env
  | some (.ow v) => ρ.set i (.fz v)
  | _ => ρ
@[simp] theorem fz1_eq : fz1 i ρ = fzC i ρ ρ[i]? := by
  unfold fz1 fzC; split <;> simp_all
@[simp] theorem fzC_ow : fzC i ρ (some (.ow v)) = ρ.set i (.fz v) := rfl
@[simp] theorem fzC_fz : fzC i ρ (some (.fz v)) = ρ := rfl
end
end Py
namespace Py
theorem hgt_pos (p : Pt) : 1 ≤ p.hgt := by cases p <;> simp [Pt.hgt]
end Py
namespace Py
section
variable {ρ ρ' : Env} {S : Store} {v u w : PV} {i j k : Nat} {t : Dt} {m a b c : Dn} {g g' : G2} {D : FE} {Q : PV → Store → Prop} {E : Err → Store → Prop}
/-! ### targets, pop -/
def tgF (o : Option Env) (S : Store) : Flo := match o with
  | some ρ => .nx ρ S
  | none => .bad
@[simp] theorem tgF_some : tgF (some ρ) S = .nx ρ S := rfl
@[simp] theorem asgT_ap : dAsgT t m ρ S = sbF (m ρ S) (fun v ρ S => tgF (t v ρ) S) ρ := by
  unfold dAsgT
  rw [sB_ap]
  congr 1
@[simp] theorem tT2 : tT [i, j] (.tup [v, u]) ρ = some ((ρ.set i (.fz v)).set j (.fz u)) := rfl
@[simp] theorem tT3 : tT [i, j, k] (.tup [v, u, w]) ρ = some (((ρ.set i (.fz v)).set j (.fz u)).set k (.fz w)) := rfl
def popC (t : Dt) (i : Nat) (ρ : Env) (S : Store) : Option Cell → Flo
  | some (.ow (.lst xs)) => match xs[xs.length - 1]? with
    | some v => tgF (t v (ρ.set i (.ow (.lst xs.dropLast)))) S
    | none => .bad
  | _ => .bad
@[simp] theorem pop_ap : dPop t i ρ S = popC t i ρ S ρ[i]? := by
  unfold dPop popC tgF
  split <;> simp_all <;> (try rfl)
theorem popC_snoc {xs : List PV} : popC t i ρ S (some (.ow (.lst (xs ++ [v])))) = tgF (t v (ρ.set i (.ow (.lst xs)))) S := by
  unfold popC
  simp
@[simp] theorem par_ap {ms : Dna} : dPar i j ms ρ S = (match ms ρ S with | .ok [v, w] S1 => .nx ((ρ.set i (.fz v)).set j (.fz w)) S1 | .ok _ _ => .bad | .exc e S1 => .exc e ρ S1 | .bad => .bad) := rfl
/-! ### chains -/
def chF (o : Option PV) (S : Store) (r : Res PV) : Res PV := match o with
  | some (.bl true) => r
  | some (.bl false) => .ok (.bl false) S
  | _ => .bad
@[simp] theorem lw_ap {w : Dw} : dLW w ρ S = bnd (w ρ S) fun vs S1 => .ok (.lst vs) S1 := rfl
@[simp] theorem tw_ap {w : Dw} : dTW w ρ S = bnd (w ρ S) fun vs S1 => .ok (.tup vs) S1 := rfl
@[simp] theorem listT {xs : List PV} : lift1 gList (.tup xs) S = .ok (.lst xs) S := rfl
@[simp] theorem tupleT {xs : List PV} : lift1 gTuple (.tup xs) S = .ok (.tup xs) S := rfl
@[simp] theorem tupleL {xs : List PV} : lift1 gTuple (.lst xs) S = .ok (.tup xs) S := rfl
@[simp] theorem chain_ap : dChain g g' a b c ρ S = bnd (a ρ S) fun v S1 => bnd (b ρ S1) fun u S2 => chF (g v u S2) S2 (bnd (c ρ S2) fun t S3 => lift2 g' u t S3) := rfl
@[simp] theorem Sat_ch {p : Bool} {r : Res PV} : Sat (chF (some (.bl p)) S r) Q E = if p = true then Sat r Q E else Q (.bl false) S := by cases p <;> rfl
@[simp] theorem leI_i {x y : Int} : gLeI (.int x) (.int y) S = some (.bl (decide (x ≤ y))) := rfl
@[simp] theorem ltI_i {x y : Int} : gLtI (.int x) (.int y) S = some (.bl (decide (x < y))) := rfl
@[simp] theorem l2_ltI {x y : Int} : lift2 gLtI (.int x) (.int y) S = .ok (.bl (decide (x < y))) S := rfl
@[simp] theorem l2_leI {x y : Int} : lift2 gLeI (.int x) (.int y) S = .ok (.bl (decide (x ≤ y))) S := rfl
/-! ### try -/
@[simp] theorem SatF_try {bd : Dns} {i? : Option Nat} {kn cl : Err → Bool} {h : Err → Dns} : SatF (dTry bd i? kn cl h ρ S) D = SatF (bd ρ S) { D with ex := fun er ρ' S' => kn er = true ∧ (if cl er = true then noEx ρ' = true ∧ SatF (leaveX i? (h er (enterX i? ρ') S')) D else D.ex er ρ' S') } := by
  unfold dTry
  cases bd ρ S with
  | exc er ρ' S' =>
    show SatF (if kn er = true then (if cl er = true then (if noEx ρ' = true then leaveX i? (h er (enterX i? ρ') S') else .bad) else .exc er ρ' S') else .bad) D = _
    simp only [SatF_exc]
    by_cases h1 : kn er = true
    · rw [if_pos h1]
      by_cases h2 : cl er = true
      · rw [if_pos h2, if_pos h2]
        by_cases h3 : noEx ρ' = true
        · rw [if_pos h3]; simp [h1, h3]
        · rw [if_neg h3]; simp [h3]; exact id
      · rw [if_neg h2, if_neg h2]; simp [h1]
    · rw [if_neg h1]; simp [h1]; exact id
  | _ => rfl
@[simp] theorem SatF_leave_ret {i? : Option Nat} : SatF (leaveX i? (.ret v S)) D = D.rt v S := rfl
@[simp] theorem isE_eq {p : Bool} : dIsE i p ρ S = (match ρ[i]? with | some .ex => .ok (.bl p) S | _ => .bad) := rfl
end
end Py
namespace Py
/-- a stop in the middle -/
theorem SatF.cut {fl : Flo} {D : FE} (M : Env → Store → Prop) (h : SatF fl { D with nx := M }) (k : ∀ ρ S, M ρ S → D.nx ρ S) : SatF fl D := h.imp k (fun _ _ h => h) (fun _ _ _ h => h) (fun _ _ h => h) (fun _ _ h => h)
end Py
/-! The evaluation lemmas, as one (printed by tools/mkev.py). -/
namespace Py
open L2
theorem EVc : type_of% (And.intro @sqF_nx <| And.intro @sqF_ret <| And.intro @sqF_brk <| And.intro @sqF_ct <| And.intro @sqF_exc <| And.intro @sbF_ok <| And.intro @sbF_exc <| And.intro @ifF_t <| And.intro @ifF_f <| And.intro @dSeq_ap <| And.intro @dSkip_ap <| And.intro @dAsg_ap <| And.intro @dAsgO_ap <| And.intro @dEx_ap <| And.intro @dRet_ap <| And.intro @dRetN_ap <| And.intro @dIfS_ap <| And.intro @dBrk_ap <| And.intro @dCt_ap <| And.intro @dRaise_ap <| And.intro @dFz_ap <| And.intro @dFor_ap <| And.intro @forR_ok <| And.intro @forR_exc <| And.intro @forD_nil <| And.intro @dK_ap <| And.intro @cellV_fz <| And.intro @cellB_fz <| And.intro @cellB_ow <| And.intro @dVar_ap <| And.intro @dBor_ap <| And.intro @dOp2_ap <| And.intro @dOp1_ap <| And.intro @dAnd_ap <| And.intro @dOr_ap <| And.intro @dNot_ap <| And.intro @dNeg_ap <| And.intro @dIf_ap <| And.intro @andF_t <| And.intro @andF_f <| And.intro @orF_t <| And.intro @orF_f <| And.intro @notF_b <| And.intro @negF_i <| And.intro @iteF2_t <| And.intro @iteF2_f <| And.intro @dNil_ap <| And.intro @dCons_ap <| And.intro @seqF0 <| And.intro @seqF1 <| And.intro @seqF2 <| And.intro @seqF3 <| And.intro @seqF4 <| And.intro @seqF5 <| And.intro @dTup_ap <| And.intro @dLst_ap <| And.intro @dCall_ap <| And.intro @l2_add <| And.intro @l2_sub <| And.intro @l2_lt <| And.intro @l2_le <| And.intro @l2_gt <| And.intro @l2_ge <| And.intro @l2_eq <| And.intro @l2_ne <| And.intro @l2_tup20 <| And.intro @l2_tup21 <| And.intro @l1_abs <| And.intro @l1_int <| And.intro @l1_lenT <| And.intro @l1_lenL <| And.intro @l1_tupL <| And.intro @l1_tupT <| And.intro @l1_listS <| And.intro @l1_isI <| And.intro @l1_isB <| And.intro @l1_isT <| And.intro @dGcd_ap <| And.intro @gcdF_i <| And.intro @flo_ret <| And.intro @flo_nx <| And.intro @flo_exc <| And.intro @dSetN_ap <| And.intro @hasN0 <| And.intro @chg0 <| And.intro @setAt1 <| And.intro @setAt2 <| And.intro @setAt3 <| And.intro @fin_some <| And.intro @rix0 <| And.intro @rix1 <| And.intro @rix2 <| And.intro @rix3 <| And.intro @pow1018 <| And.intro @bnd_ok <| And.intro @bnd_exc <| And.intro @decide_true <| And.intro @decide_false <| And.intro @Bool.not_true <| And.intro @Bool.not_false <| And.intro @Sat_ok <| And.intro @Sat_exc <| And.intro @Sat_bnd <| And.intro @Sat_flo <| And.intro @SatF_nx <| And.intro @SatF_ret <| And.intro @SatF_exc <| And.intro @SatF_brk <| And.intro @SatF_ct <| And.intro @SatF_sq <| And.intro @SatF_sb <| And.intro @SatF_forR <| And.intro @SatF_if <| And.intro @Sat_and <| And.intro @Sat_or <| And.intro @Sat_ite <| And.intro @ixT0 <| And.intro @ixT1 <| And.intro @ixT2 <| And.intro @ixT3 <| And.intro @ixL0 <| And.intro @ixL1 <| And.intro @ixL2 <| And.intro @tN_ap <| And.intro @hasN_eq <| And.intro @cellN_ow <| And.intro @cellN_fz <| And.intro @hasL_eq <| And.intro @cellL_ow <| And.intro @chg_eq <| And.intro @chgC_ow <| And.intro @app_eq <| And.intro @fz1_eq <| And.intro @fzC_ow <| And.intro @fzC_fz <| And.intro @tgF_some <| And.intro @asgT_ap <| And.intro @tT2 <| And.intro @tT3 <| And.intro @pop_ap <| And.intro @par_ap <| And.intro @lw_ap <| And.intro @tw_ap <| And.intro @listT <| And.intro @tupleT <| And.intro @tupleL <| And.intro @chain_ap <| And.intro @Sat_ch <| And.intro @leI_i <| And.intro @ltI_i <| And.intro @l2_ltI <| And.intro @l2_leI <| And.intro @SatF_try <| And.intro @SatF_leave_ret <| And.intro @isE_eq <| And.intro @rng1_ap <| And.intro @rng2_ap' <| And.intro @seqI_ap <| And.intro @items_t <| And.intro @items_l <| And.intro @sl_ap <| And.intro @noPart_ap <| And.intro @part_ap <| And.intro @sl_lst <| And.intro @sl_tup <| And.intro @Sat_lc <| And.intro @true_and <| And.intro @and_true <| And.intro @or_false <| And.intro @false_or <| And.intro @or_true <| And.intro @true_or <| And.intro @or_self <| And.intro @Bool.true_eq_false <| And.intro @not_true_eq_false <| And.intro @not_false_eq_true <| And.intro @decide_eq_true_eq <| And.intro @Bool.false_eq_true <| And.intro @Bool.and_true <| And.intro @Bool.true_and <| And.intro @Bool.and_false <| And.intro @Bool.false_and <| And.intro @Bool.or_false <| And.intro @Bool.false_or <| And.intro @Bool.or_true <| @Bool.true_or) := And.intro @sqF_nx <| And.intro @sqF_ret <| And.intro @sqF_brk <| And.intro @sqF_ct <| And.intro @sqF_exc <| And.intro @sbF_ok <| And.intro @sbF_exc <| And.intro @ifF_t <| And.intro @ifF_f <| And.intro @dSeq_ap <| And.intro @dSkip_ap <| And.intro @dAsg_ap <| And.intro @dAsgO_ap <| And.intro @dEx_ap <| And.intro @dRet_ap <| And.intro @dRetN_ap <| And.intro @dIfS_ap <| And.intro @dBrk_ap <| And.intro @dCt_ap <| And.intro @dRaise_ap <| And.intro @dFz_ap <| And.intro @dFor_ap <| And.intro @forR_ok <| And.intro @forR_exc <| And.intro @forD_nil <| And.intro @dK_ap <| And.intro @cellV_fz <| And.intro @cellB_fz <| And.intro @cellB_ow <| And.intro @dVar_ap <| And.intro @dBor_ap <| And.intro @dOp2_ap <| And.intro @dOp1_ap <| And.intro @dAnd_ap <| And.intro @dOr_ap <| And.intro @dNot_ap <| And.intro @dNeg_ap <| And.intro @dIf_ap <| And.intro @andF_t <| And.intro @andF_f <| And.intro @orF_t <| And.intro @orF_f <| And.intro @notF_b <| And.intro @negF_i <| And.intro @iteF2_t <| And.intro @iteF2_f <| And.intro @dNil_ap <| And.intro @dCons_ap <| And.intro @seqF0 <| And.intro @seqF1 <| And.intro @seqF2 <| And.intro @seqF3 <| And.intro @seqF4 <| And.intro @seqF5 <| And.intro @dTup_ap <| And.intro @dLst_ap <| And.intro @dCall_ap <| And.intro @l2_add <| And.intro @l2_sub <| And.intro @l2_lt <| And.intro @l2_le <| And.intro @l2_gt <| And.intro @l2_ge <| And.intro @l2_eq <| And.intro @l2_ne <| And.intro @l2_tup20 <| And.intro @l2_tup21 <| And.intro @l1_abs <| And.intro @l1_int <| And.intro @l1_lenT <| And.intro @l1_lenL <| And.intro @l1_tupL <| And.intro @l1_tupT <| And.intro @l1_listS <| And.intro @l1_isI <| And.intro @l1_isB <| And.intro @l1_isT <| And.intro @dGcd_ap <| And.intro @gcdF_i <| And.intro @flo_ret <| And.intro @flo_nx <| And.intro @flo_exc <| And.intro @dSetN_ap <| And.intro @hasN0 <| And.intro @chg0 <| And.intro @setAt1 <| And.intro @setAt2 <| And.intro @setAt3 <| And.intro @fin_some <| And.intro @rix0 <| And.intro @rix1 <| And.intro @rix2 <| And.intro @rix3 <| And.intro @pow1018 <| And.intro @bnd_ok <| And.intro @bnd_exc <| And.intro @decide_true <| And.intro @decide_false <| And.intro @Bool.not_true <| And.intro @Bool.not_false <| And.intro @Sat_ok <| And.intro @Sat_exc <| And.intro @Sat_bnd <| And.intro @Sat_flo <| And.intro @SatF_nx <| And.intro @SatF_ret <| And.intro @SatF_exc <| And.intro @SatF_brk <| And.intro @SatF_ct <| And.intro @SatF_sq <| And.intro @SatF_sb <| And.intro @SatF_forR <| And.intro @SatF_if <| And.intro @Sat_and <| And.intro @Sat_or <| And.intro @Sat_ite <| And.intro @ixT0 <| And.intro @ixT1 <| And.intro @ixT2 <| And.intro @ixT3 <| And.intro @ixL0 <| And.intro @ixL1 <| And.intro @ixL2 <| And.intro @tN_ap <| And.intro @hasN_eq <| And.intro @cellN_ow <| And.intro @cellN_fz <| And.intro @hasL_eq <| And.intro @cellL_ow <| And.intro @chg_eq <| And.intro @chgC_ow <| And.intro @app_eq <| And.intro @fz1_eq <| And.intro @fzC_ow <| And.intro @fzC_fz <| And.intro @tgF_some <| And.intro @asgT_ap <| And.intro @tT2 <| And.intro @tT3 <| And.intro @pop_ap <| And.intro @par_ap <| And.intro @lw_ap <| And.intro @tw_ap <| And.intro @listT <| And.intro @tupleT <| And.intro @tupleL <| And.intro @chain_ap <| And.intro @Sat_ch <| And.intro @leI_i <| And.intro @ltI_i <| And.intro @l2_ltI <| And.intro @l2_leI <| And.intro @SatF_try <| And.intro @SatF_leave_ret <| And.intro @isE_eq <| And.intro @rng1_ap <| And.intro @rng2_ap' <| And.intro @seqI_ap <| And.intro @items_t <| And.intro @items_l <| And.intro @sl_ap <| And.intro @noPart_ap <| And.intro @part_ap <| And.intro @sl_lst <| And.intro @sl_tup <| And.intro @Sat_lc <| And.intro @true_and <| And.intro @and_true <| And.intro @or_false <| And.intro @false_or <| And.intro @or_true <| And.intro @true_or <| And.intro @or_self <| And.intro @Bool.true_eq_false <| And.intro @not_true_eq_false <| And.intro @not_false_eq_true <| And.intro @decide_eq_true_eq <| And.intro @Bool.false_eq_true <| And.intro @Bool.and_true <| And.intro @Bool.true_and <| And.intro @Bool.and_false <| And.intro @Bool.false_and <| And.intro @Bool.or_false <| And.intro @Bool.false_or <| And.intro @Bool.or_true <| @Bool.true_or
end Py
/-! The defs that laws share, over the defs that they call (printed by tools/shared.py). -/
namespace Py
abbrev PF := List PV → Store → Res PV
/-- compare -/
noncomputable def D_compare  : Dns := (dSeq (dAsg 2 (dOp2 gMul (dOp2 gIx (dBor 0) (dK (.int 0))) (dOp2 gIx (dBor 1) (dK (.int 1))))) (dSeq (dAsg 3 (dOp2 gMul (dOp2 gIx (dBor 1) (dK (.int 0))) (dOp2 gIx (dBor 0) (dK (.int 1))))) (dSeq (dIfS (dOp2 gLt (dBor 2) (dBor 3)) (dSeq (dRet (dNeg (dK (.int 1)))) dSkip) dSkip) (dSeq (dIfS (dOp2 gGt (dBor 2) (dBor 3)) (dSeq (dRet (dK (.int 1))) dSkip) dSkip) (dSeq (dRet (dK (.int 0))) dSkip)))))
noncomputable abbrev F_compare  : PF := dDef 4 2 (D_compare )
theorem A_compare  {x0 x1 : PV} {S : Store} : F_compare  [x0, x1] S = flo (D_compare  [.fz x0, .fz x1, .un, .un] S) := rfl
/-- nodes_of -/
noncomputable def D_nodes_of  : Dns := (dSeq (dAsgO 1 (dLst dNil)) (dSeq (dAsgO 2 (dLst (dCons (dTup (dCons (dTup dNil) (dCons (dOp2 gIx (dBor 0) (dK (.int 1))) dNil))) dNil))) (dSeq (dWh (dOp2 gGt (dOp1 gLen (dBor 2)) (dK (.int 0))) (dSeq (dPop (tT [4, 5]) 2) (dSeq (dApp' 1 (dTup (dCons (dVar 4) (dCons (dVar 5) dNil)))) (dSeq (dFor (dRng1 (dOp1 gLen (dOp2 gIx (dBor 5) (dK (.int 1))))) (tN 3) (dSeq (dApp' 2 (dTup (dCons (dOp2 gAdd (dBor 4) (dTup (dCons (dVar 3) dNil))) (dCons (dOp2 gIx (dOp2 gIx (dBor 5) (dK (.int 1))) (dBor 3)) dNil)))) dSkip)) dSkip)))) (dSeq (dSeq (dFz 1) (dRet (dVar 1))) dSkip))))
noncomputable abbrev F_nodes_of  : PF := dDef 6 1 (D_nodes_of )
theorem A_nodes_of  {x0 : PV} {S : Store} : F_nodes_of  [x0] S = flo (D_nodes_of  [.fz x0, .un, .un, .un, .un, .un] S) := rfl
/-- right_prices -/
noncomputable def D_right_prices (gcompare : PF) : Dns := (dSeq (dIfS (dOp2 gNe (dOp1 gLen (dBor 1)) (dOp2 gSub (dBor 0) (dK (.int 1)))) (dSeq (dRet (dK (.bl false))) dSkip) dSkip) (dSeq (dRet (dOp1 gAll (dLc (dSeqI (dVar 1)) (tT [2, 3]) dTrue (dAnd (dOp2 gGe (dOp2 gIx (dBor 3) (dK (.int 0))) (dK (.int 0))) (dOp2 gLe (dCall gcompare (dCons (dVar 3) (dCons (dVar 2) dNil))) (dK (.int 0)))) [2, 3]))) dSkip))
noncomputable abbrev F_right_prices (gcompare : PF) : PF := dDef 4 2 (D_right_prices gcompare)
theorem A_right_prices {gcompare : PF} {x0 x1 : PV} {S : Store} : F_right_prices gcompare [x0, x1] S = flo (D_right_prices gcompare [.fz x0, .fz x1, .un, .un] S) := rfl
/-- check_market -/
noncomputable def D_check_market (gnodes_of : PF) (gright_prices : PF) : Dns := (dSeq (dAsg 1 (dOp2 gIx (dBor 0) (dK (.int 0)))) (dSeq (dIfS (dOr (dOp2 gLt (dBor 1) (dK (.int 1))) (dOp2 gGt (dBor 1) (dK (.int 4)))) (dSeq (dRaise .market) dSkip) dSkip) (dSeq (dAsg 2 (dCall gnodes_of (dCons (dVar 0) dNil))) (dSeq (dAsg 3 (dLc (dSeqI (dVar 2)) (tT [4, 5]) (dOp2 gEq (dOp1 gLen (dOp2 gIx (dBor 5) (dK (.int 1)))) (dK (.int 0))) (dOp1 gLen (dBor 4)) [4, 5])) (dSeq (dIfS (dOr (dNot (dOp1 gAll (dLc (dSeqI (dVar 2)) (tT [4, 5]) dTrue (dCall gright_prices (dCons (dVar 1) (dCons (dOp2 gIx (dBor 5) (dK (.int 0))) dNil))) [4, 5]))) (dOp2 gNe (dOp1 gMin (dBor 3)) (dOp1 gMax (dBor 3)))) (dSeq (dRaise .market) dSkip) dSkip) (dSeq (dIfS (dOr (dOp2 gGt (dOp1 gLen (dBor 2)) (dK (.int 40))) (dOp2 gGt (dOp1 gMax (dBor 3)) (dK (.int 5)))) (dSeq (dRaise .tooLarge) dSkip) dSkip) dSkip))))))
noncomputable abbrev F_check_market (gnodes_of : PF) (gright_prices : PF) : PF := dDef 6 1 (D_check_market gnodes_of gright_prices)
theorem A_check_market {gnodes_of : PF} {gright_prices : PF} {x0 : PV} {S : Store} : F_check_market gnodes_of gright_prices [x0] S = flo (D_check_market gnodes_of gright_prices [.fz x0, .un, .un, .un, .un, .un] S) := rfl
/-- path_list -/
noncomputable def D_path_list (gnodes_of : PF) : Dns := (dSeq (dRet (dOp1 gSorted (dLc (dSeqI (dCall gnodes_of (dCons (dVar 0) dNil))) (tT [1, 2]) dTrue (dVar 1) [1, 2]))) dSkip)
noncomputable abbrev F_path_list (gnodes_of : PF) : PF := dDef 3 1 (D_path_list gnodes_of)
theorem A_path_list {gnodes_of : PF} {x0 : PV} {S : Store} : F_path_list gnodes_of [x0] S = flo (D_path_list gnodes_of [.fz x0, .un, .un] S) := rfl
/-- end_list -/
noncomputable def D_end_list (gnodes_of : PF) : Dns := (dSeq (dRet (dOp1 gSorted (dLc (dSeqI (dCall gnodes_of (dCons (dVar 0) dNil))) (tT [1, 2]) (dOp2 gEq (dOp1 gLen (dOp2 gIx (dBor 2) (dK (.int 1)))) (dK (.int 0))) (dVar 1) [1, 2]))) dSkip)
noncomputable abbrev F_end_list (gnodes_of : PF) : PF := dDef 3 1 (D_end_list gnodes_of)
theorem A_end_list {gnodes_of : PF} {x0 : PV} {S : Store} : F_end_list gnodes_of [x0] S = flo (D_end_list gnodes_of [.fz x0, .un, .un] S) := rfl
/-- moments -/
noncomputable def D_moments (gcheck_market : PF) (gpath_list : PF) : Dns := (dSeq (dEx (dCall gcheck_market (dCons (dVar 0) dNil))) (dSeq (dRet (dOp1 gTuple (dCall gpath_list (dCons (dVar 0) dNil)))) dSkip))
noncomputable abbrev F_moments (gcheck_market : PF) (gpath_list : PF) : PF := dDef 1 1 (D_moments gcheck_market gpath_list)
theorem A_moments {gcheck_market : PF} {gpath_list : PF} {x0 : PV} {S : Store} : F_moments gcheck_market gpath_list [x0] S = flo (D_moments gcheck_market gpath_list [.fz x0] S) := rfl
/-- ends -/
noncomputable def D_ends (gcheck_market : PF) (gend_list : PF) : Dns := (dSeq (dEx (dCall gcheck_market (dCons (dVar 0) dNil))) (dSeq (dRet (dOp1 gTuple (dCall gend_list (dCons (dVar 0) dNil)))) dSkip))
noncomputable abbrev F_ends (gcheck_market : PF) (gend_list : PF) : PF := dDef 1 1 (D_ends gcheck_market gend_list)
theorem A_ends {gcheck_market : PF} {gend_list : PF} {x0 : PV} {S : Store} : F_ends gcheck_market gend_list [x0] S = flo (D_ends gcheck_market gend_list [.fz x0] S) := rfl
/-- last_time -/
noncomputable def D_last_time (gcheck_market : PF) (gend_list : PF) : Dns := (dSeq (dEx (dCall gcheck_market (dCons (dVar 0) dNil))) (dSeq (dRet (dOp1 gLen (dOp2 gIx (dCall gend_list (dCons (dVar 0) dNil)) (dK (.int 0))))) dSkip))
noncomputable abbrev F_last_time (gcheck_market : PF) (gend_list : PF) : PF := dDef 1 1 (D_last_time gcheck_market gend_list)
theorem A_last_time {gcheck_market : PF} {gend_list : PF} {x0 : PV} {S : Store} : F_last_time gcheck_market gend_list [x0] S = flo (D_last_time gcheck_market gend_list [.fz x0] S) := rfl
/-- node_at -/
noncomputable def D_node_at  : Dns := (dSeq (dAsg 2 (dOp2 gIx (dBor 0) (dK (.int 1)))) (dSeq (dFor (dSeqI (dVar 1)) (tN 3) (dSeq (dIfS (dOr (dOp2 gLt (dBor 3) (dK (.int 0))) (dOp2 gGe (dBor 3) (dOp1 gLen (dOp2 gIx (dBor 2) (dK (.int 1)))))) (dSeq (dRaise .moment) dSkip) dSkip) (dSeq (dAsg 2 (dOp2 gIx (dOp2 gIx (dBor 2) (dK (.int 1))) (dBor 3))) dSkip))) (dSeq (dRet (dVar 2)) dSkip)))
noncomputable abbrev F_node_at  : PF := dDef 4 2 (D_node_at )
theorem A_node_at  {x0 x1 : PV} {S : Store} : F_node_at  [x0, x1] S = flo (D_node_at  [.fz x0, .fz x1, .un, .un] S) := rfl
/-- prices_of -/
noncomputable def D_prices_of (gnode_at : PF) : Dns := (dSeq (dRet (dOp2 gAdd (dTup (dCons (dTup (dCons (dK (.tup [(.int 1), (.int 1)])) (dCons (dK (.tup [(.int 1), (.int 1)])) dNil))) dNil)) (dOp2 gIx (dCall gnode_at (dCons (dVar 0) (dCons (dVar 1) dNil))) (dK (.int 0))))) dSkip)
noncomputable abbrev F_prices_of (gnode_at : PF) : PF := dDef 2 2 (D_prices_of gnode_at)
theorem A_prices_of {gnode_at : PF} {x0 x1 : PV} {S : Store} : F_prices_of gnode_at [x0, x1] S = flo (D_prices_of gnode_at [.fz x0, .fz x1] S) := rfl
/-- price_of -/
noncomputable def D_price_of (gcheck_market : PF) (gprices_of : PF) : Dns := (dSeq (dEx (dCall gcheck_market (dCons (dVar 0) dNil))) (dSeq (dAsg 3 (dCall gprices_of (dCons (dVar 0) (dCons (dVar 1) dNil)))) (dSeq (dIfS (dOr (dOp2 gLt (dBor 2) (dK (.int 0))) (dOp2 gGe (dBor 2) (dOp1 gLen (dBor 3)))) (dSeq (dRaise .moment) dSkip) dSkip) (dSeq (dRet (dOp2 gIx (dBor 3) (dBor 2))) dSkip))))
noncomputable abbrev F_price_of (gcheck_market : PF) (gprices_of : PF) : PF := dDef 4 3 (D_price_of gcheck_market gprices_of)
theorem A_price_of {gcheck_market : PF} {gprices_of : PF} {x0 x1 x2 : PV} {S : Store} : F_price_of gcheck_market gprices_of [x0, x1, x2] S = flo (D_price_of gcheck_market gprices_of [.fz x0, .fz x1, .fz x2, .un] S) := rfl
/-- nexts -/
noncomputable def D_nexts (gcheck_market : PF) (gnode_at : PF) : Dns := (dSeq (dEx (dCall gcheck_market (dCons (dVar 0) dNil))) (dSeq (dRet (dOp1 gLen (dOp2 gIx (dCall gnode_at (dCons (dVar 0) (dCons (dVar 1) dNil))) (dK (.int 1))))) dSkip))
noncomputable abbrev F_nexts (gcheck_market : PF) (gnode_at : PF) : PF := dDef 2 2 (D_nexts gcheck_market gnode_at)
theorem A_nexts {gcheck_market : PF} {gnode_at : PF} {x0 x1 : PV} {S : Store} : F_nexts gcheck_market gnode_at [x0, x1] S = flo (D_nexts gcheck_market gnode_at [.fz x0, .fz x1] S) := rfl
/-- _law_begin -/
noncomputable def D_law_begin  : Dns := (dSeq (dAsg 1 (dK (.int 1))) (dSeq (dFor (dSeqI (dVar 0)) (tN 2) (dSeq (dAsg 1 (dOp2 gMod (dOp2 gAdd (dOp2 gAdd (dOp2 gMul (dBor 1) (dK (.int 69621))) (dOp2 gMod (dOp1 gInt (dBor 2)) (dK (.int 2147483629)))) (dK (.int 7))) (dK (.int 2147483647)))) dSkip)) (dSeq (dRet (dBox (dLst (dCons (dOp1 gList (dBor 0)) (dCons (dK (.int 0)) (dCons (dK (.int 0)) (dCons (dVar 1) dNil))))))) dSkip)))
noncomputable abbrev F_law_begin  : PF := dDef 3 1 (D_law_begin )
theorem A_law_begin  {x0 : PV} {S : Store} : F_law_begin  [x0] S = flo (D_law_begin  [.fz x0, .un, .un] S) := rfl
/-- _law_take -/
noncomputable def D_law_take  : Dns := (dSeq (dIfS (dAnd (dOp2 gEq (dOp2 gIx (dBor 0) (dK (.int 2))) (dK (.int 0))) (dOp2 gLt (dOp2 gIx (dBor 0) (dK (.int 1))) (dOp1 gLen (dOp2 gIx (dBor 0) (dK (.int 0)))))) (dSeq (dSetN 0 (dK (.int 2)) (dOp1 gAbs (dOp1 gInt (dOp2 gIx (dOp2 gIx (dBor 0) (dK (.int 0))) (dOp2 gIx (dBor 0) (dK (.int 1))))))) (dSeq (dSetN 0 (dK (.int 1)) (dOp2 gAdd (dOp2 gIx (dBor 0) (dK (.int 1))) (dK (.int 1)))) (dSeq (dIfS (dOp2 gLt (dOp2 gIx (dBor 0) (dK (.int 2))) (dOp2 gPow (dK (.int 10)) (dK (.int 18)))) (dSeq (dAsg 3 (dOp1 gInt (dOp2 gIx (dBor 0) (dK (.int 2))))) (dSeq (dSetN 0 (dK (.int 2)) (dK (.int 0))) (dSeq (dRet (dOp2 gMod (dBor 3) (dBor 1))) dSkip))) dSkip) dSkip))) dSkip) (dSeq (dIfS (dOp2 gGt (dOp2 gIx (dBor 0) (dK (.int 2))) (dK (.int 0))) (dSeq (dAsg 2 (dOp2 gMod (dOp1 gInt (dOp2 gIx (dBor 0) (dK (.int 2)))) (dBor 1))) (dSeq (dSetN 0 (dK (.int 2)) (dOp2 gDiv (dOp1 gInt (dOp2 gIx (dBor 0) (dK (.int 2)))) (dBor 1))) (dSeq (dRet (dVar 2)) dSkip))) dSkip) (dSeq (dSetN 0 (dK (.int 3)) (dOp2 gMod (dOp1 gInt (dOp2 gAdd (dOp2 gMul (dOp2 gIx (dBor 0) (dK (.int 3))) (dK (.int 48271))) (dK (.int 11)))) (dK (.int 2147483647)))) (dSeq (dRet (dOp2 gMod (dOp1 gInt (dOp2 gDiv (dOp2 gIx (dBor 0) (dK (.int 3))) (dK (.int 3)))) (dBor 1))) dSkip))))
noncomputable abbrev F_law_take  : PF := dDef 4 2 (D_law_take )
theorem A_law_take  {x0 x1 : PV} {S : Store} : F_law_take  [x0, x1] S = flo (D_law_take  [.fz x0, .fz x1, .un, .un] S) := rfl
/-- _law_gcd -/
noncomputable def D_law_gcd  : Dns := (dSeq (dWh (dOp2 gNe (dBor 1) (dK (.int 0))) (dSeq (dPar 0 1 (dCons (dVar 1) (dCons (dOp2 gMod (dOp1 gInt (dBor 0)) (dBor 1)) dNil))) dSkip)) (dSeq (dRet (dOp1 gAbs (dBor 0))) dSkip))
noncomputable abbrev F_law_gcd  : PF := dDef 2 2 (D_law_gcd )
theorem A_law_gcd  {x0 x1 : PV} {S : Store} : F_law_gcd  [x0, x1] S = flo (D_law_gcd  [.fz x0, .fz x1] S) := rfl
/-- _law_f -/
noncomputable def D_law_f (g_law_gcd : PF) : Dns := (dSeq (dIfS (dOp2 gLt (dBor 1) (dK (.int 0))) (dSeq (dAsg 0 (dOp2 gSub (dK (.int 0)) (dBor 0))) (dSeq (dAsg 1 (dOp2 gSub (dK (.int 0)) (dBor 1))) dSkip)) dSkip) (dSeq (dAsg 2 (dCall g_law_gcd (dCons (dOp1 gAbs (dBor 0)) (dCons (dVar 1) dNil)))) (dSeq (dRet (dTup (dCons (dOp2 gDiv (dBor 0) (dBor 2)) (dCons (dOp2 gDiv (dBor 1) (dBor 2)) dNil)))) dSkip)))
noncomputable abbrev F_law_f (g_law_gcd : PF) : PF := dDef 3 2 (D_law_f g_law_gcd)
theorem A_law_f {g_law_gcd : PF} {x0 x1 : PV} {S : Store} : F_law_f g_law_gcd [x0, x1] S = flo (D_law_f g_law_gcd [.fz x0, .fz x1, .un] S) := rfl
/-- _law_plus -/
noncomputable def D_law_plus (g_law_f : PF) : Dns := (dSeq (dRet (dCall g_law_f (dCons (dOp2 gAdd (dOp2 gMul (dOp2 gIx (dBor 0) (dK (.int 0))) (dOp2 gIx (dBor 1) (dK (.int 1)))) (dOp2 gMul (dOp2 gIx (dBor 1) (dK (.int 0))) (dOp2 gIx (dBor 0) (dK (.int 1))))) (dCons (dOp2 gMul (dOp2 gIx (dBor 0) (dK (.int 1))) (dOp2 gIx (dBor 1) (dK (.int 1)))) dNil)))) dSkip)
noncomputable abbrev F_law_plus (g_law_f : PF) : PF := dDef 2 2 (D_law_plus g_law_f)
theorem A_law_plus {g_law_f : PF} {x0 x1 : PV} {S : Store} : F_law_plus g_law_f [x0, x1] S = flo (D_law_plus g_law_f [.fz x0, .fz x1] S) := rfl
/-- _law_minus -/
noncomputable def D_law_minus (g_law_f : PF) : Dns := (dSeq (dRet (dCall g_law_f (dCons (dOp2 gSub (dOp2 gMul (dOp2 gIx (dBor 0) (dK (.int 0))) (dOp2 gIx (dBor 1) (dK (.int 1)))) (dOp2 gMul (dOp2 gIx (dBor 1) (dK (.int 0))) (dOp2 gIx (dBor 0) (dK (.int 1))))) (dCons (dOp2 gMul (dOp2 gIx (dBor 0) (dK (.int 1))) (dOp2 gIx (dBor 1) (dK (.int 1)))) dNil)))) dSkip)
noncomputable abbrev F_law_minus (g_law_f : PF) : PF := dDef 2 2 (D_law_minus g_law_f)
theorem A_law_minus {g_law_f : PF} {x0 x1 : PV} {S : Store} : F_law_minus g_law_f [x0, x1] S = flo (D_law_minus g_law_f [.fz x0, .fz x1] S) := rfl
/-- _law_times -/
noncomputable def D_law_times (g_law_f : PF) : Dns := (dSeq (dRet (dCall g_law_f (dCons (dOp2 gMul (dOp2 gIx (dBor 0) (dK (.int 0))) (dOp2 gIx (dBor 1) (dK (.int 0)))) (dCons (dOp2 gMul (dOp2 gIx (dBor 0) (dK (.int 1))) (dOp2 gIx (dBor 1) (dK (.int 1)))) dNil)))) dSkip)
noncomputable abbrev F_law_times (g_law_f : PF) : PF := dDef 2 2 (D_law_times g_law_f)
theorem A_law_times {g_law_f : PF} {x0 x1 : PV} {S : Store} : F_law_times g_law_f [x0, x1] S = flo (D_law_times g_law_f [.fz x0, .fz x1] S) := rfl
/-- _law_less -/
noncomputable def D_law_less  : Dns := (dSeq (dRet (dOp2 gLt (dOp2 gMul (dOp2 gIx (dBor 0) (dK (.int 0))) (dOp2 gIx (dBor 1) (dK (.int 1)))) (dOp2 gMul (dOp2 gIx (dBor 1) (dK (.int 0))) (dOp2 gIx (dBor 0) (dK (.int 1)))))) dSkip)
noncomputable abbrev F_law_less  : PF := dDef 2 2 (D_law_less )
theorem A_law_less  {x0 x1 : PV} {S : Store} : F_law_less  [x0, x1] S = flo (D_law_less  [.fz x0, .fz x1] S) := rfl
/-- _law_spread -/
noncomputable def D_law_spread (g_law_take : PF) (g_law_minus : PF) (g_law_plus : PF) : Dns := (dSeq (dAsg 2 (dOp2 gIx (dTup (dCons (dTup (dCons (dK (.int 0)) (dCons (dK (.int 1)) dNil))) (dCons (dTup (dCons (dK (.int 0)) (dCons (dK (.int 1)) dNil))) (dCons (dTup (dCons (dK (.int 1)) (dCons (dK (.int 4)) dNil))) (dCons (dTup (dCons (dK (.int 1)) (dCons (dK (.int 2)) dNil))) (dCons (dTup (dCons (dK (.int 1)) (dCons (dK (.int 1)) dNil))) dNil)))))) (dCall g_law_take (dCons (dVar 0) (dCons (dK (.int 5)) dNil))))) (dSeq (dAsg 3 (dCall g_law_minus (dCons (dVar 1) (dCons (dVar 2) dNil)))) (dSeq (dRet (dTup (dCons (dCall g_law_plus (dCons (dVar 1) (dCons (dVar 2) dNil))) (dCons (dIf (dOp2 gGe (dOp2 gIx (dBor 3) (dK (.int 0))) (dK (.int 0))) (dVar 3) (dTup (dCons (dK (.int 0)) (dCons (dK (.int 1)) dNil)))) dNil)))) dSkip)))
noncomputable abbrev F_law_spread (g_law_take : PF) (g_law_minus : PF) (g_law_plus : PF) : PF := dDef 4 2 (D_law_spread g_law_take g_law_minus g_law_plus)
theorem A_law_spread {g_law_take : PF} {g_law_minus : PF} {g_law_plus : PF} {x0 x1 : PV} {S : Store} : F_law_spread g_law_take g_law_minus g_law_plus [x0, x1] S = flo (D_law_spread g_law_take g_law_minus g_law_plus [.fz x0, .fz x1, .un, .un] S) := rfl
/-- _law_node -/
noncomputable def D_law_node (g_law_take : PF) (g_law_node : PF) (g_law_f : PF) (g_law_plus : PF) (g_law_times : PF) (g_law_spread : PF) : Dns := (dSeq (dAsg 5 (dIf (dOp2 gEq (dBor 2) (dBor 3)) (dK (.int 0)) (dOp2 gAdd (dK (.int 1)) (dCall g_law_take (dCons (dVar 0) (dCons (dIf (dOp2 gEq (dBor 3) (dK (.int 1))) (dK (.int 3)) (dK (.int 2))) dNil)))))) (dSeq (dAsg 6 (dLc (dRng1 (dVar 5)) (tN 12) dTrue (dCall g_law_node (dCons (dVar 0) (dCons (dVar 1) (dCons (dOp2 gAdd (dBor 2) (dK (.int 1))) (dCons (dVar 3) (dCons (dVar 4) dNil)))))) [12])) (dSeq (dAsg 7 (dLc (dRng1 (dVar 5)) (tN 12) dTrue (dOp2 gAdd (dK (.int 1)) (dCall g_law_take (dCons (dVar 0) (dCons (dK (.int 3)) dNil)))) [12])) (dSeq (dAsgO 8 (dLst dNil)) (dSeq (dFor (dRng1 (dOp2 gSub (dBor 1) (dK (.int 1)))) (tN 9) (dSeq (dAsg 11 (dCall g_law_f (dCons (dCall g_law_take (dCons (dVar 0) (dCons (dK (.int 9)) dNil))) (dCons (dOp2 gAdd (dK (.int 1)) (dCall g_law_take (dCons (dVar 0) (dCons (dK (.int 2)) dNil)))) dNil)))) (dSeq (dIfS (dAnd (dOp2 gGt (dBor 5) (dK (.int 0))) (dNot (dVar 4))) (dSeq (dAsg 13 (dTup (dCons (dK (.int 0)) (dCons (dK (.int 1)) dNil)))) (dSeq (dFor (dRng1 (dVar 5)) (tN 12) (dSeq (dAsg 13 (dCall g_law_plus (dCons (dVar 13) (dCons (dCall g_law_times (dCons (dOp2 gIx (dOp2 gIx (dOp2 gIx (dBor 6) (dBor 12)) (dK (.int 1))) (dBor 9)) (dCons (dTup (dCons (dOp2 gIx (dBor 7) (dBor 12)) (dCons (dK (.int 1)) dNil))) dNil))) dNil)))) dSkip)) (dSeq (dAsg 11 (dCall g_law_times (dCons (dVar 13) (dCons (dTup (dCons (dK (.int 1)) (dCons (dOp1 gSum (dBor 7)) dNil))) dNil)))) dSkip))) dSkip) (dSeq (dApp' 8 (dVar 11)) dSkip)))) (dSeq (dSeq (dFz 8) (dAsg 10 (dOp1 gTuple (dLc (dSeqI (dVar 8)) (tN 11) dTrue (dCall g_law_spread (dCons (dVar 0) (dCons (dVar 11) dNil))) [11])))) (dSeq (dSeq (dFz 8) (dRet (dTup (dCons (dTup (dCons (dVar 10) (dCons (dOp1 gTuple (dLc (dSeqI (dVar 6)) (tN 14) dTrue (dOp2 gIx (dBor 14) (dK (.int 0))) [14])) dNil))) (dCons (dVar 8) dNil))))) dSkip)))))))
noncomputable abbrev F_law_node (g_law_take : PF) (g_law_node : PF) (g_law_f : PF) (g_law_plus : PF) (g_law_times : PF) (g_law_spread : PF) : PF := dDef 15 5 (D_law_node g_law_take g_law_node g_law_f g_law_plus g_law_times g_law_spread)
theorem A_law_node {g_law_take : PF} {g_law_node : PF} {g_law_f : PF} {g_law_plus : PF} {g_law_times : PF} {g_law_spread : PF} {x0 x1 x2 x3 x4 : PV} {S : Store} : F_law_node g_law_take g_law_node g_law_f g_law_plus g_law_times g_law_spread [x0, x1, x2, x3, x4] S = flo (D_law_node g_law_take g_law_node g_law_f g_law_plus g_law_times g_law_spread [.fz x0, .fz x1, .fz x2, .fz x3, .fz x4, .un, .un, .un, .un, .un, .un, .un, .un, .un, .un] S) := rfl
/-- _law_market -/
noncomputable def D_law_market (g_law_take : PF) (g_law_node : PF) : Dns := (dSeq (dAsg 2 (dOp2 gAdd (dK (.int 1)) (dCall g_law_take (dCons (dVar 0) (dCons (dVar 1) dNil))))) (dSeq (dIfS (dAnd (dOp2 gEq (dBor 2) (dK (.int 1))) (dOp2 gGt (dCall g_law_take (dCons (dVar 0) (dCons (dK (.int 3)) dNil))) (dK (.int 0)))) (dSeq (dAsg 2 (dK (.int 2))) dSkip) dSkip) (dSeq (dAsg 3 (dOp2 gEq (dCall g_law_take (dCons (dVar 0) (dCons (dK (.int 5)) dNil))) (dK (.int 1)))) (dSeq (dRet (dTup (dCons (dVar 2) (dCons (dOp2 gIx (dCall g_law_node (dCons (dVar 0) (dCons (dVar 2) (dCons (dK (.int 0)) (dCons (dCall g_law_take (dCons (dVar 0) (dCons (dK (.int 3)) dNil))) (dCons (dVar 3) dNil)))))) (dK (.int 0))) dNil)))) dSkip))))
noncomputable abbrev F_law_market (g_law_take : PF) (g_law_node : PF) : PF := dDef 4 2 (D_law_market g_law_take g_law_node)
theorem A_law_market {g_law_take : PF} {g_law_node : PF} {x0 x1 : PV} {S : Store} : F_law_market g_law_take g_law_node [x0, x1] S = flo (D_law_market g_law_take g_law_node [.fz x0, .fz x1, .un, .un] S) := rfl
/-- _law_nodes -/
noncomputable def D_law_nodes (g_law_find : PF) : Dns := (dSeq (dAsg 1 (dLst dNil)) (dSeq (dAsg 2 (dLst (dCons (dTup (dCons (dTup dNil) (dCons (dOp2 gIx (dBor 0) (dK (.int 1))) dNil))) dNil))) (dSeq (dFor (dRng1 (dK (.int 7))) (tN 3) (dSeq (dAsg 1 (dOp2 gAdd (dBor 1) (dBor 2))) (dSeq (dAsg 4 (dLst dNil)) (dSeq (dFor (dSeqI (dVar 2)) (tT [5, 6]) (dSeq (dAsg 4 (dOp2 gAdd (dBor 4) (dLc (dRng1 (dOp1 gLen (dOp2 gIx (dBor 6) (dK (.int 1))))) (tN 7) dTrue (dTup (dCons (dOp2 gAdd (dBor 5) (dTup (dCons (dVar 7) dNil))) (dCons (dOp2 gIx (dOp2 gIx (dBor 6) (dK (.int 1))) (dBor 7)) dNil))) [7]))) dSkip)) (dSeq (dAsg 2 (dVar 4)) dSkip))))) (dSeq (dRet (dLc (dSeqI (dOp1 gSorted (dLc (dSeqI (dVar 1)) (tN 8) dTrue (dOp2 gIx (dBor 8) (dK (.int 0))) [8]))) (tN 5) dTrue (dTup (dCons (dVar 5) (dCons (dCall g_law_find (dCons (dVar 0) (dCons (dVar 5) dNil))) dNil))) [5])) dSkip))))
noncomputable abbrev F_law_nodes (g_law_find : PF) : PF := dDef 9 1 (D_law_nodes g_law_find)
theorem A_law_nodes {g_law_find : PF} {x0 : PV} {S : Store} : F_law_nodes g_law_find [x0] S = flo (D_law_nodes g_law_find [.fz x0, .un, .un, .un, .un, .un, .un, .un, .un] S) := rfl
/-- _law_find -/
noncomputable def D_law_find  : Dns := (dSeq (dAsg 2 (dOp2 gIx (dBor 0) (dK (.int 1)))) (dSeq (dFor (dSeqI (dVar 1)) (tN 3) (dSeq (dIfS (dOr (dOp2 gLt (dBor 3) (dK (.int 0))) (dOp2 gGe (dBor 3) (dOp1 gLen (dOp2 gIx (dBor 2) (dK (.int 1)))))) (dSeq (dRet (dK .non)) dSkip) dSkip) (dSeq (dAsg 2 (dOp2 gIx (dOp2 gIx (dBor 2) (dK (.int 1))) (dBor 3))) dSkip))) (dSeq (dRet (dVar 2)) dSkip)))
noncomputable abbrev F_law_find  : PF := dDef 4 2 (D_law_find )
theorem A_law_find  {x0 x1 : PV} {S : Store} : F_law_find  [x0, x1] S = flo (D_law_find  [.fz x0, .fz x1, .un, .un] S) := rfl
/-- _law_prices -/
noncomputable def D_law_prices (g_law_find : PF) : Dns := (dSeq (dRet (dOp2 gAdd (dTup (dCons (dTup (dCons (dTup (dCons (dK (.int 1)) (dCons (dK (.int 1)) dNil))) (dCons (dTup (dCons (dK (.int 1)) (dCons (dK (.int 1)) dNil))) dNil))) dNil)) (dOp2 gIx (dCall g_law_find (dCons (dVar 0) (dCons (dVar 1) dNil))) (dK (.int 0))))) dSkip)
noncomputable abbrev F_law_prices (g_law_find : PF) : PF := dDef 2 2 (D_law_prices g_law_find)
theorem A_law_prices {g_law_find : PF} {x0 x1 : PV} {S : Store} : F_law_prices g_law_find [x0, x1] S = flo (D_law_prices g_law_find [.fz x0, .fz x1] S) := rfl
/-- _law_ends -/
noncomputable def D_law_ends (g_law_nodes : PF) : Dns := (dSeq (dRet (dLc (dSeqI (dCall g_law_nodes (dCons (dVar 0) dNil))) (tT [1, 2]) (dOp2 gEq (dOp1 gLen (dOp2 gIx (dBor 2) (dK (.int 1)))) (dK (.int 0))) (dVar 1) [1, 2])) dSkip)
noncomputable abbrev F_law_ends (g_law_nodes : PF) : PF := dDef 3 1 (D_law_ends g_law_nodes)
theorem A_law_ends {g_law_nodes : PF} {x0 : PV} {S : Store} : F_law_ends g_law_nodes [x0] S = flo (D_law_ends g_law_nodes [.fz x0, .un, .un] S) := rfl
/-- fraction -/
noncomputable def D_fraction  : Dns := (dSeq (dIfS (dOp2 gEq (dBor 1) (dK (.int 0))) (dSeq (dRaise .zeroDen) dSkip) dSkip) (dSeq (dIfS (dOp2 gLt (dBor 1) (dK (.int 0))) (dSeq (dAsg 0 (dNeg (dVar 0))) (dSeq (dAsg 1 (dNeg (dVar 1))) dSkip)) dSkip) (dSeq (dAsg 2 (dGcd (dVar 0) (dVar 1))) (dSeq (dRet (dTup (dCons (dOp2 gDiv (dBor 0) (dBor 2)) (dCons (dOp2 gDiv (dBor 1) (dBor 2)) dNil)))) dSkip))))
noncomputable abbrev F_fraction  : PF := dDef 3 2 (D_fraction )
theorem A_fraction  {x0 x1 : PV} {S : Store} : F_fraction  [x0, x1] S = flo (D_fraction  [.fz x0, .fz x1, .un] S) := rfl
/-- times -/
noncomputable def D_times (gfraction : PF) : Dns := (dSeq (dRet (dCall gfraction (dCons (dOp2 gMul (dOp2 gIx (dBor 0) (dK (.int 0))) (dOp2 gIx (dBor 1) (dK (.int 0)))) (dCons (dOp2 gMul (dOp2 gIx (dBor 0) (dK (.int 1))) (dOp2 gIx (dBor 1) (dK (.int 1)))) dNil)))) dSkip)
noncomputable abbrev F_times (gfraction : PF) : PF := dDef 2 2 (D_times gfraction)
theorem A_times {gfraction : PF} {x0 x1 : PV} {S : Store} : F_times gfraction [x0, x1] S = flo (D_times gfraction [.fz x0, .fz x1] S) := rfl
/-- over -/
noncomputable def D_over (gfraction : PF) : Dns := (dSeq (dRet (dCall gfraction (dCons (dOp2 gMul (dOp2 gIx (dBor 0) (dK (.int 0))) (dOp2 gIx (dBor 1) (dK (.int 1)))) (dCons (dOp2 gMul (dOp2 gIx (dBor 0) (dK (.int 1))) (dOp2 gIx (dBor 1) (dK (.int 0)))) dNil)))) dSkip)
noncomputable abbrev F_over (gfraction : PF) : PF := dDef 2 2 (D_over gfraction)
theorem A_over {gfraction : PF} {x0 x1 : PV} {S : Store} : F_over gfraction [x0, x1] S = flo (D_over gfraction [.fz x0, .fz x1] S) := rfl
/-- wider_node -/
noncomputable def D_wider_node (gtimes : PF) (gover : PF) (gwider_node : PF) : Dns := (dSeq (dAsg 2 (dOp1 gTuple (dLc (dSeqI (dOp2 gIx (dBor 0) (dK (.int 0)))) (tT [3, 4]) dTrue (dTup (dCons (dCall gtimes (dCons (dVar 3) (dCons (dVar 1) dNil))) (dCons (dCall gover (dCons (dVar 4) (dCons (dVar 1) dNil))) dNil))) [3, 4]))) (dSeq (dRet (dTup (dCons (dVar 2) (dCons (dOp1 gTuple (dLc (dSeqI (dOp2 gIx (dBor 0) (dK (.int 1)))) (tN 5) dTrue (dCall gwider_node (dCons (dVar 5) (dCons (dVar 1) dNil))) [5])) dNil)))) dSkip))
noncomputable abbrev F_wider_node (gtimes : PF) (gover : PF) (gwider_node : PF) : PF := dDef 6 2 (D_wider_node gtimes gover gwider_node)
theorem A_wider_node {gtimes : PF} {gover : PF} {gwider_node : PF} {x0 x1 : PV} {S : Store} : F_wider_node gtimes gover gwider_node [x0, x1] S = flo (D_wider_node gtimes gover gwider_node [.fz x0, .fz x1, .un, .un, .un, .un] S) := rfl
/-- widened -/
noncomputable def D_widened (gcheck_market : PF) (gcompare : PF) (gwider_node : PF) : Dns := (dSeq (dEx (dCall gcheck_market (dCons (dVar 0) dNil))) (dSeq (dIfS (dOp2 gLt (dCall gcompare (dCons (dVar 1) (dCons (dK (.tup [(.int 1), (.int 1)])) dNil))) (dK (.int 0))) (dSeq (dRaise .market) dSkip) dSkip) (dSeq (dRet (dTup (dCons (dOp2 gIx (dBor 0) (dK (.int 0))) (dCons (dCall gwider_node (dCons (dOp2 gIx (dBor 0) (dK (.int 1))) (dCons (dVar 1) dNil))) dNil)))) dSkip)))
noncomputable abbrev F_widened (gcheck_market : PF) (gcompare : PF) (gwider_node : PF) : PF := dDef 2 2 (D_widened gcheck_market gcompare gwider_node)
theorem A_widened {gcheck_market : PF} {gcompare : PF} {gwider_node : PF} {x0 x1 : PV} {S : Store} : F_widened gcheck_market gcompare gwider_node [x0, x1] S = flo (D_widened gcheck_market gcompare gwider_node [.fz x0, .fz x1] S) := rfl
/-- turned_node -/
noncomputable def D_turned_node (gturned_node : PF) : Dns := (dSeq (dAsg 2 (dOp1 gTuple (dLc (dSeqI (dSl gSl (dBor 1) (dPart (dK (.int 1))) dNoPart)) (tN 3) dTrue (dOp2 gIx (dOp2 gIx (dBor 0) (dK (.int 0))) (dOp2 gSub (dBor 3) (dK (.int 1)))) [3]))) (dSeq (dRet (dTup (dCons (dVar 2) (dCons (dOp1 gTuple (dLc (dSeqI (dOp2 gIx (dBor 0) (dK (.int 1)))) (tN 4) dTrue (dCall gturned_node (dCons (dVar 4) (dCons (dVar 1) dNil))) [4])) dNil)))) dSkip))
noncomputable abbrev F_turned_node (gturned_node : PF) : PF := dDef 5 2 (D_turned_node gturned_node)
theorem A_turned_node {gturned_node : PF} {x0 x1 : PV} {S : Store} : F_turned_node gturned_node [x0, x1] S = flo (D_turned_node gturned_node [.fz x0, .fz x1, .un, .un, .un] S) := rfl
/-- turned -/
noncomputable def D_turned (gcheck_market : PF) (gturned_node : PF) : Dns := (dSeq (dEx (dCall gcheck_market (dCons (dVar 0) dNil))) (dSeq (dIfS (dOr (dOp2 gNe (dOp1 gLen (dBor 1)) (dOp2 gIx (dBor 0) (dK (.int 0)))) (dOr (dOp2 gNe (dOp2 gIx (dBor 1) (dK (.int 0))) (dK (.int 0))) (dOp2 gNe (dOp1 gSorted (dBor 1)) (dLW (dRng1 (dOp2 gIx (dBor 0) (dK (.int 0)))))))) (dSeq (dRaise .market) dSkip) dSkip) (dSeq (dRet (dTup (dCons (dOp2 gIx (dBor 0) (dK (.int 0))) (dCons (dCall gturned_node (dCons (dOp2 gIx (dBor 0) (dK (.int 1))) (dCons (dVar 1) dNil))) dNil)))) dSkip)))
noncomputable abbrev F_turned (gcheck_market : PF) (gturned_node : PF) : PF := dDef 2 2 (D_turned gcheck_market gturned_node)
theorem A_turned {gcheck_market : PF} {gturned_node : PF} {x0 x1 : PV} {S : Store} : F_turned gcheck_market gturned_node [x0, x1] S = flo (D_turned gcheck_market gturned_node [.fz x0, .fz x1] S) := rfl
/-- market_at -/
noncomputable def D_market_at (gcheck_market : PF) (gnode_at : PF) : Dns := (dSeq (dEx (dCall gcheck_market (dCons (dVar 0) dNil))) (dSeq (dRet (dTup (dCons (dOp2 gIx (dBor 0) (dK (.int 0))) (dCons (dCall gnode_at (dCons (dVar 0) (dCons (dVar 1) dNil))) dNil)))) dSkip))
noncomputable abbrev F_market_at (gcheck_market : PF) (gnode_at : PF) : PF := dDef 2 2 (D_market_at gcheck_market gnode_at)
theorem A_market_at {gcheck_market : PF} {gnode_at : PF} {x0 x1 : PV} {S : Store} : F_market_at gcheck_market gnode_at [x0, x1] S = flo (D_market_at gcheck_market gnode_at [.fz x0, .fz x1] S) := rfl
/-- plus -/
noncomputable def D_plus (gfraction : PF) : Dns := (dSeq (dRet (dCall gfraction (dCons (dOp2 gAdd (dOp2 gMul (dOp2 gIx (dBor 0) (dK (.int 0))) (dOp2 gIx (dBor 1) (dK (.int 1)))) (dOp2 gMul (dOp2 gIx (dBor 1) (dK (.int 0))) (dOp2 gIx (dBor 0) (dK (.int 1))))) (dCons (dOp2 gMul (dOp2 gIx (dBor 0) (dK (.int 1))) (dOp2 gIx (dBor 1) (dK (.int 1)))) dNil)))) dSkip)
noncomputable abbrev F_plus (gfraction : PF) : PF := dDef 2 2 (D_plus gfraction)
theorem A_plus {gfraction : PF} {x0 x1 : PV} {S : Store} : F_plus gfraction [x0, x1] S = flo (D_plus gfraction [.fz x0, .fz x1] S) := rfl
/-- minus -/
noncomputable def D_minus (gfraction : PF) : Dns := (dSeq (dRet (dCall gfraction (dCons (dOp2 gSub (dOp2 gMul (dOp2 gIx (dBor 0) (dK (.int 0))) (dOp2 gIx (dBor 1) (dK (.int 1)))) (dOp2 gMul (dOp2 gIx (dBor 1) (dK (.int 0))) (dOp2 gIx (dBor 0) (dK (.int 1))))) (dCons (dOp2 gMul (dOp2 gIx (dBor 0) (dK (.int 1))) (dOp2 gIx (dBor 1) (dK (.int 1)))) dNil)))) dSkip)
noncomputable abbrev F_minus (gfraction : PF) : PF := dDef 2 2 (D_minus gfraction)
theorem A_minus {gfraction : PF} {x0 x1 : PV} {S : Store} : F_minus gfraction [x0, x1] S = flo (D_minus gfraction [.fz x0, .fz x1] S) := rfl
/-- check_plan -/
noncomputable def D_check_plan (gpath_list : PF) : Dns := (dSeq (dAsg 2 (dCall gpath_list (dCons (dVar 0) dNil))) (dSeq (dFor (dRng1 (dOp1 gLen (dBor 1))) (tN 3) (dSeq (dAsgT (tT [4, 5]) (dOp2 gIx (dBor 1) (dBor 3))) (dSeq (dIfS (dOr (dOp2 gNotIn (dBor 4) (dBor 2)) (dOr (dOp2 gNe (dOp1 gLen (dBor 5)) (dOp2 gSub (dOp2 gIx (dBor 0) (dK (.int 0))) (dK (.int 1)))) (dAnd (dOp2 gGt (dBor 3) (dK (.int 0))) (dOp2 gGe (dOp2 gIx (dOp2 gIx (dBor 1) (dOp2 gSub (dBor 3) (dK (.int 1)))) (dK (.int 0))) (dBor 4))))) (dSeq (dRaise .plan) dSkip) dSkip) dSkip))) dSkip))
noncomputable abbrev F_check_plan (gpath_list : PF) : PF := dDef 6 2 (D_check_plan gpath_list)
theorem A_check_plan {gpath_list : PF} {x0 x1 : PV} {S : Store} : F_check_plan gpath_list [x0, x1] S = flo (D_check_plan gpath_list [.fz x0, .fz x1, .un, .un, .un, .un] S) := rfl
/-- traded -/
noncomputable def D_traded (gplus : PF) (gminus : PF) (gtimes : PF) : Dns := (dSeq (dAsgO 3 (dOp1 gList (dBor 1))) (dSeq (dFor (dRng1 (dOp1 gLen (dBor 2))) (tN 4) (dSeq (dAsg 5 (dOp2 gIx (dBor 2) (dBor 4))) (dSeq (dAsg 6 (dIf (dOp2 gGt (dOp2 gIx (dBor 5) (dK (.int 0))) (dK (.int 0))) (dOp2 gIx (dOp2 gIx (dBor 0) (dOp2 gAdd (dBor 4) (dK (.int 1)))) (dK (.int 0))) (dOp2 gIx (dOp2 gIx (dBor 0) (dOp2 gAdd (dBor 4) (dK (.int 1)))) (dK (.int 1))))) (dSeq (dSetN 3 (dOp2 gAdd (dBor 4) (dK (.int 1))) (dCall gplus (dCons (dOp2 gIx (dBor 3) (dOp2 gAdd (dBor 4) (dK (.int 1)))) (dCons (dVar 5) dNil)))) (dSeq (dSetN 3 (dK (.int 0)) (dCall gminus (dCons (dOp2 gIx (dBor 3) (dK (.int 0))) (dCons (dCall gtimes (dCons (dVar 5) (dCons (dVar 6) dNil))) dNil)))) dSkip))))) (dSeq (dRet (dOp1 gTuple (dBor 3))) dSkip)))
noncomputable abbrev F_traded (gplus : PF) (gminus : PF) (gtimes : PF) : PF := dDef 7 3 (D_traded gplus gminus gtimes)
theorem A_traded {gplus : PF} {gminus : PF} {gtimes : PF} {x0 x1 x2 : PV} {S : Store} : F_traded gplus gminus gtimes [x0, x1, x2] S = flo (D_traded gplus gminus gtimes [.fz x0, .fz x1, .fz x2, .un, .un, .un, .un] S) := rfl
/-- holdings_of -/
noncomputable def D_holdings_of (gend_list : PF) (gtraded : PF) (gprices_of : PF) : Dns := (dSeq (dAsgO 3 (dLst dNil)) (dSeq (dFor (dSeqI (dCall gend_list (dCons (dVar 0) dNil))) (tN 4) (dSeq (dAsg 5 (dOp1 gTuple (dBor 1))) (dSeq (dFor (dSeqI (dVar 2)) (tT [6, 7]) (dSeq (dIfS (dOp2 gEq (dBor 6) (dSl gSl (dBor 4) dNoPart (dPart (dOp1 gLen (dBor 6))))) (dSeq (dAsg 5 (dCall gtraded (dCons (dCall gprices_of (dCons (dVar 0) (dCons (dVar 6) dNil))) (dCons (dVar 5) (dCons (dVar 7) dNil))))) dSkip) dSkip) dSkip)) (dSeq (dApp' 3 (dTup (dCons (dVar 4) (dCons (dVar 5) dNil)))) dSkip)))) (dSeq (dRet (dOp1 gTuple (dBor 3))) dSkip)))
noncomputable abbrev F_holdings_of (gend_list : PF) (gtraded : PF) (gprices_of : PF) : PF := dDef 8 3 (D_holdings_of gend_list gtraded gprices_of)
theorem A_holdings_of {gend_list : PF} {gtraded : PF} {gprices_of : PF} {x0 x1 x2 : PV} {S : Store} : F_holdings_of gend_list gtraded gprices_of [x0, x1, x2] S = flo (D_holdings_of gend_list gtraded gprices_of [.fz x0, .fz x1, .fz x2, .un, .un, .un, .un, .un] S) := rfl
/-- holdings -/
noncomputable def D_holdings (gcheck_market : PF) (gcheck_plan : PF) (gholdings_of : PF) : Dns := (dSeq (dEx (dCall gcheck_market (dCons (dVar 0) dNil))) (dSeq (dEx (dCall gcheck_plan (dCons (dVar 0) (dCons (dVar 2) dNil)))) (dSeq (dIfS (dOp2 gNe (dOp1 gLen (dBor 1)) (dOp2 gIx (dBor 0) (dK (.int 0)))) (dSeq (dRaise .plan) dSkip) dSkip) (dSeq (dRet (dCall gholdings_of (dCons (dVar 0) (dCons (dVar 1) (dCons (dVar 2) dNil))))) dSkip))))
noncomputable abbrev F_holdings (gcheck_market : PF) (gcheck_plan : PF) (gholdings_of : PF) : PF := dDef 3 3 (D_holdings gcheck_market gcheck_plan gholdings_of)
theorem A_holdings {gcheck_market : PF} {gcheck_plan : PF} {gholdings_of : PF} {x0 x1 x2 : PV} {S : Store} : F_holdings gcheck_market gcheck_plan gholdings_of [x0, x1, x2] S = flo (D_holdings gcheck_market gcheck_plan gholdings_of [.fz x0, .fz x1, .fz x2] S) := rfl
/-- _law_signed -/
noncomputable def D_law_signed (g_law_take : PF) : Dns := (dSeq (dRet (dOp2 gSub (dCall g_law_take (dCons (dVar 0) (dCons (dOp2 gAdd (dOp2 gMul (dK (.int 2)) (dBor 1)) (dK (.int 1))) dNil))) (dBor 1))) dSkip)
noncomputable abbrev F_law_signed (g_law_take : PF) : PF := dDef 2 2 (D_law_signed g_law_take)
theorem A_law_signed {g_law_take : PF} {x0 x1 : PV} {S : Store} : F_law_signed g_law_take [x0, x1] S = flo (D_law_signed g_law_take [.fz x0, .fz x1] S) := rfl
/-- _law_part -/
noncomputable def D_law_part (g_law_f : PF) (g_law_signed : PF) (g_law_take : PF) : Dns := (dSeq (dRet (dCall g_law_f (dCons (dCall g_law_signed (dCons (dVar 0) (dCons (dOp2 gMul (dBor 1) (dK (.int 2))) dNil))) (dCons (dOp2 gAdd (dK (.int 1)) (dCall g_law_take (dCons (dVar 0) (dCons (dK (.int 3)) dNil)))) dNil)))) dSkip)
noncomputable abbrev F_law_part (g_law_f : PF) (g_law_signed : PF) (g_law_take : PF) : PF := dDef 2 2 (D_law_part g_law_f g_law_signed g_law_take)
theorem A_law_part {g_law_f : PF} {g_law_signed : PF} {g_law_take : PF} {x0 x1 : PV} {S : Store} : F_law_part g_law_f g_law_signed g_law_take [x0, x1] S = flo (D_law_part g_law_f g_law_signed g_law_take [.fz x0, .fz x1] S) := rfl
/-- number_at -/
noncomputable def D_number_at (gnumber_at : PF) (gplus : PF) (gminus : PF) (gtimes : PF) (gcompare : PF) : Dns := (dSeq (dAsg 2 (dOp2 gIx (dBor 1) (dK (.int 0)))) (dSeq (dIfS (dOp2 gEq (dBor 2) (dK (.str (PySem.Str.ofString "number")))) (dSeq (dRet (dOp2 gIx (dBor 1) (dK (.int 1)))) dSkip) dSkip) (dSeq (dIfS (dOp2 gEq (dBor 2) (dK (.str (PySem.Str.ofString "buy")))) (dSeq (dRet (dOp2 gIx (dOp2 gIx (dBor 0) (dOp2 gIx (dBor 1) (dK (.int 1)))) (dK (.int 0)))) dSkip) dSkip) (dSeq (dIfS (dOp2 gEq (dBor 2) (dK (.str (PySem.Str.ofString "sell")))) (dSeq (dRet (dOp2 gIx (dOp2 gIx (dBor 0) (dOp2 gIx (dBor 1) (dK (.int 1)))) (dK (.int 1)))) dSkip) dSkip) (dSeq (dAsg 3 (dCall gnumber_at (dCons (dVar 0) (dCons (dOp2 gIx (dBor 1) (dK (.int 1))) dNil)))) (dSeq (dAsg 4 (dCall gnumber_at (dCons (dVar 0) (dCons (dOp2 gIx (dBor 1) (dK (.int 2))) dNil)))) (dSeq (dIfS (dOp2 gEq (dBor 2) (dK (.str (PySem.Str.ofString "plus")))) (dSeq (dRet (dCall gplus (dCons (dVar 3) (dCons (dVar 4) dNil)))) dSkip) dSkip) (dSeq (dIfS (dOp2 gEq (dBor 2) (dK (.str (PySem.Str.ofString "minus")))) (dSeq (dRet (dCall gminus (dCons (dVar 3) (dCons (dVar 4) dNil)))) dSkip) dSkip) (dSeq (dIfS (dOp2 gEq (dBor 2) (dK (.str (PySem.Str.ofString "times")))) (dSeq (dRet (dCall gtimes (dCons (dVar 3) (dCons (dVar 4) dNil)))) dSkip) dSkip) (dSeq (dIfS (dOp2 gEq (dBor 2) (dK (.str (PySem.Str.ofString "least")))) (dSeq (dRet (dIf (dOp2 gLe (dCall gcompare (dCons (dVar 3) (dCons (dVar 4) dNil))) (dK (.int 0))) (dVar 3) (dVar 4))) dSkip) dSkip) (dSeq (dRet (dIf (dOp2 gGe (dCall gcompare (dCons (dVar 3) (dCons (dVar 4) dNil))) (dK (.int 0))) (dVar 3) (dVar 4))) dSkip)))))))))))
noncomputable abbrev F_number_at (gnumber_at : PF) (gplus : PF) (gminus : PF) (gtimes : PF) (gcompare : PF) : PF := dDef 5 2 (D_number_at gnumber_at gplus gminus gtimes gcompare)
theorem A_number_at {gnumber_at : PF} {gplus : PF} {gminus : PF} {gtimes : PF} {gcompare : PF} {x0 x1 : PV} {S : Store} : F_number_at gnumber_at gplus gminus gtimes gcompare [x0, x1] S = flo (D_number_at gnumber_at gplus gminus gtimes gcompare [.fz x0, .fz x1, .un, .un, .un] S) := rfl
/-- condition_at -/
noncomputable def D_condition_at (gcondition_at : PF) (gcompare : PF) (gnumber_at : PF) : Dns := (dSeq (dAsg 2 (dOp2 gIx (dBor 1) (dK (.int 0)))) (dSeq (dIfS (dOp2 gEq (dBor 2) (dK (.str (PySem.Str.ofString "not")))) (dSeq (dRet (dNot (dCall gcondition_at (dCons (dVar 0) (dCons (dOp2 gIx (dBor 1) (dK (.int 1))) dNil))))) dSkip) dSkip) (dSeq (dIfS (dOp2 gEq (dBor 2) (dK (.str (PySem.Str.ofString "and")))) (dSeq (dRet (dAnd (dCall gcondition_at (dCons (dVar 0) (dCons (dOp2 gIx (dBor 1) (dK (.int 1))) dNil))) (dCall gcondition_at (dCons (dVar 0) (dCons (dOp2 gIx (dBor 1) (dK (.int 2))) dNil))))) dSkip) dSkip) (dSeq (dAsg 3 (dCall gcompare (dCons (dCall gnumber_at (dCons (dVar 0) (dCons (dOp2 gIx (dBor 1) (dK (.int 1))) dNil))) (dCons (dCall gnumber_at (dCons (dVar 0) (dCons (dOp2 gIx (dBor 1) (dK (.int 2))) dNil))) dNil)))) (dSeq (dRet (dIf (dOp2 gEq (dBor 2) (dK (.str (PySem.Str.ofString "less")))) (dOp2 gLt (dBor 3) (dK (.int 0))) (dOp2 gEq (dBor 3) (dK (.int 0))))) dSkip)))))
noncomputable abbrev F_condition_at (gcondition_at : PF) (gcompare : PF) (gnumber_at : PF) : PF := dDef 4 2 (D_condition_at gcondition_at gcompare gnumber_at)
theorem A_condition_at {gcondition_at : PF} {gcompare : PF} {gnumber_at : PF} {x0 x1 : PV} {S : Store} : F_condition_at gcondition_at gcompare gnumber_at [x0, x1] S = flo (D_condition_at gcondition_at gcompare gnumber_at [.fz x0, .fz x1, .un, .un] S) := rfl
/-- checked_prices -/
noncomputable def D_checked_prices (gcheck_market : PF) (gprices_of : PF) : Dns := (dSeq (dEx (dCall gcheck_market (dCons (dVar 0) dNil))) (dSeq (dAsg 3 (dCall gprices_of (dCons (dVar 0) (dCons (dVar 1) dNil)))) (dSeq (dAsgO 4 (dLst (dCons (dVar 2) dNil))) (dSeq (dWh (dOp2 gGt (dOp1 gLen (dBor 4)) (dK (.int 0))) (dSeq (dPop (tN 5) 4) (dSeq (dIfS (dOp2 gIn (dOp2 gIx (dBor 5) (dK (.int 0))) (dTup (dCons (dK (.str (PySem.Str.ofString "buy"))) (dCons (dK (.str (PySem.Str.ofString "sell"))) dNil)))) (dSeq (dIfS (dNot (dChain gLeI gLtI (dK (.int 0)) (dOp2 gIx (dBor 5) (dK (.int 1))) (dOp2 gIx (dBor 0) (dK (.int 0))))) (dSeq (dRaise .contract) dSkip) dSkip) dSkip) (dSeq (dIfS (dOp2 gNe (dOp2 gIx (dBor 5) (dK (.int 0))) (dK (.str (PySem.Str.ofString "number")))) (dSeq (dAsgO 4 (dOp2 gAddL (dBor 4) (dOp1 gList (dSl gSl (dBor 5) (dPart (dK (.int 1))) dNoPart)))) dSkip) dSkip) dSkip)) dSkip))) (dSeq (dRet (dVar 3)) dSkip)))))
noncomputable abbrev F_checked_prices (gcheck_market : PF) (gprices_of : PF) : PF := dDef 6 3 (D_checked_prices gcheck_market gprices_of)
theorem A_checked_prices {gcheck_market : PF} {gprices_of : PF} {x0 x1 x2 : PV} {S : Store} : F_checked_prices gcheck_market gprices_of [x0, x1, x2] S = flo (D_checked_prices gcheck_market gprices_of [.fz x0, .fz x1, .fz x2, .un, .un, .un] S) := rfl
/-- value_at -/
noncomputable def D_value_at (gnumber_at : PF) (gchecked_prices : PF) : Dns := (dSeq (dRet (dCall gnumber_at (dCons (dCall gchecked_prices (dCons (dVar 0) (dCons (dVar 1) (dCons (dVar 2) dNil)))) (dCons (dVar 2) dNil)))) dSkip)
noncomputable abbrev F_value_at (gnumber_at : PF) (gchecked_prices : PF) : PF := dDef 3 3 (D_value_at gnumber_at gchecked_prices)
theorem A_value_at {gnumber_at : PF} {gchecked_prices : PF} {x0 x1 x2 : PV} {S : Store} : F_value_at gnumber_at gchecked_prices [x0, x1, x2] S = flo (D_value_at gnumber_at gchecked_prices [.fz x0, .fz x1, .fz x2] S) := rfl
/-- holds_at -/
noncomputable def D_holds_at (gcondition_at : PF) (gchecked_prices : PF) : Dns := (dSeq (dRet (dCall gcondition_at (dCons (dCall gchecked_prices (dCons (dVar 0) (dCons (dVar 1) (dCons (dVar 2) dNil)))) (dCons (dVar 2) dNil)))) dSkip)
noncomputable abbrev F_holds_at (gcondition_at : PF) (gchecked_prices : PF) : PF := dDef 3 3 (D_holds_at gcondition_at gchecked_prices)
theorem A_holds_at {gcondition_at : PF} {gchecked_prices : PF} {x0 x1 x2 : PV} {S : Store} : F_holds_at gcondition_at gchecked_prices [x0, x1, x2] S = flo (D_holds_at gcondition_at gchecked_prices [.fz x0, .fz x1, .fz x2] S) := rfl
/-- _law_min -/
noncomputable def D_law_min (g_law_less : PF) : Dns := (dSeq (dRet (dIf (dCall g_law_less (dCons (dVar 1) (dCons (dVar 0) dNil))) (dVar 1) (dVar 0))) dSkip)
noncomputable abbrev F_law_min (g_law_less : PF) : PF := dDef 2 2 (D_law_min g_law_less)
theorem A_law_min {g_law_less : PF} {x0 x1 : PV} {S : Store} : F_law_min g_law_less [x0, x1] S = flo (D_law_min g_law_less [.fz x0, .fz x1] S) := rfl
/-- _law_max -/
noncomputable def D_law_max (g_law_less : PF) : Dns := (dSeq (dRet (dIf (dCall g_law_less (dCons (dVar 0) (dCons (dVar 1) dNil))) (dVar 1) (dVar 0))) dSkip)
noncomputable abbrev F_law_max (g_law_less : PF) : PF := dDef 2 2 (D_law_max g_law_less)
theorem A_law_max {g_law_less : PF} {x0 x1 : PV} {S : Store} : F_law_max g_law_less [x0, x1] S = flo (D_law_max g_law_less [.fz x0, .fz x1] S) := rfl
/-- _law_number -/
noncomputable def D_law_number (g_law_part : PF) : Dns := (dSeq (dRet (dTup (dCons (dK (.str (PySem.Str.ofString "number"))) (dCons (dCall g_law_part (dCons (dVar 0) (dCons (dK (.int 3)) dNil))) dNil)))) dSkip)
noncomputable abbrev F_law_number (g_law_part : PF) : PF := dDef 1 1 (D_law_number g_law_part)
theorem A_law_number {g_law_part : PF} {x0 : PV} {S : Store} : F_law_number g_law_part [x0] S = flo (D_law_number g_law_part [.fz x0] S) := rfl
/-- _law_value -/
noncomputable def D_law_value (g_law_take : PF) (g_law_number : PF) (g_law_value : PF) : Dns := (dSeq (dAsg 3 (dIf (dOp2 gGt (dBor 2) (dK (.int 0))) (dCall g_law_take (dCons (dVar 0) (dCons (dK (.int 8)) dNil))) (dCall g_law_take (dCons (dVar 0) (dCons (dK (.int 3)) dNil))))) (dSeq (dIfS (dOp2 gEq (dBor 3) (dK (.int 0))) (dSeq (dRet (dCall g_law_number (dCons (dVar 0) dNil))) dSkip) dSkip) (dSeq (dIfS (dOp2 gLt (dBor 3) (dK (.int 3))) (dSeq (dRet (dTup (dCons (dOp2 gIx (dTup (dCons (dK (.str (PySem.Str.ofString "buy"))) (dCons (dK (.str (PySem.Str.ofString "sell"))) dNil))) (dOp2 gSub (dBor 3) (dK (.int 1)))) (dCons (dCall g_law_take (dCons (dVar 0) (dCons (dVar 1) dNil))) dNil)))) dSkip) dSkip) (dSeq (dAsg 4 (dOp2 gIx (dTup (dCons (dK (.str (PySem.Str.ofString "plus"))) (dCons (dK (.str (PySem.Str.ofString "minus"))) (dCons (dK (.str (PySem.Str.ofString "times"))) (dCons (dK (.str (PySem.Str.ofString "least"))) (dCons (dK (.str (PySem.Str.ofString "greatest"))) dNil)))))) (dOp2 gSub (dBor 3) (dK (.int 3))))) (dSeq (dRet (dTup (dCons (dVar 4) (dCons (dCall g_law_value (dCons (dVar 0) (dCons (dVar 1) (dCons (dOp2 gSub (dBor 2) (dK (.int 1))) dNil)))) (dCons (dCall g_law_value (dCons (dVar 0) (dCons (dVar 1) (dCons (dOp2 gSub (dBor 2) (dK (.int 1))) dNil)))) dNil))))) dSkip)))))
noncomputable abbrev F_law_value (g_law_take : PF) (g_law_number : PF) (g_law_value : PF) : PF := dDef 5 3 (D_law_value g_law_take g_law_number g_law_value)
theorem A_law_value {g_law_take : PF} {g_law_number : PF} {g_law_value : PF} {x0 x1 x2 : PV} {S : Store} : F_law_value g_law_take g_law_number g_law_value [x0, x1, x2] S = flo (D_law_value g_law_take g_law_number g_law_value [.fz x0, .fz x1, .fz x2, .un, .un] S) := rfl
/-- _law_condition -/
noncomputable def D_law_condition (g_law_take : PF) (g_law_value : PF) (g_law_condition : PF) : Dns := (dSeq (dAsg 3 (dIf (dOp2 gGt (dBor 2) (dK (.int 0))) (dCall g_law_take (dCons (dVar 0) (dCons (dK (.int 6)) dNil))) (dCall g_law_take (dCons (dVar 0) (dCons (dK (.int 3)) dNil))))) (dSeq (dIfS (dOp2 gLt (dBor 3) (dK (.int 3))) (dSeq (dRet (dTup (dCons (dOp2 gIx (dTup (dCons (dK (.str (PySem.Str.ofString "less"))) (dCons (dK (.str (PySem.Str.ofString "less"))) (dCons (dK (.str (PySem.Str.ofString "same"))) dNil)))) (dBor 3)) (dCons (dCall g_law_value (dCons (dVar 0) (dCons (dVar 1) (dCons (dK (.int 1)) dNil)))) (dCons (dCall g_law_value (dCons (dVar 0) (dCons (dVar 1) (dCons (dK (.int 0)) dNil)))) dNil))))) dSkip) dSkip) (dSeq (dIfS (dOp2 gLt (dBor 3) (dK (.int 5))) (dSeq (dRet (dTup (dCons (dK (.str (PySem.Str.ofString "not"))) (dCons (dCall g_law_condition (dCons (dVar 0) (dCons (dVar 1) (dCons (dOp2 gSub (dBor 2) (dK (.int 1))) dNil)))) dNil)))) dSkip) dSkip) (dSeq (dRet (dTup (dCons (dK (.str (PySem.Str.ofString "and"))) (dCons (dCall g_law_condition (dCons (dVar 0) (dCons (dVar 1) (dCons (dOp2 gSub (dBor 2) (dK (.int 1))) dNil)))) (dCons (dCall g_law_condition (dCons (dVar 0) (dCons (dVar 1) (dCons (dOp2 gSub (dBor 2) (dK (.int 1))) dNil)))) dNil))))) dSkip))))
noncomputable abbrev F_law_condition (g_law_take : PF) (g_law_value : PF) (g_law_condition : PF) : PF := dDef 4 3 (D_law_condition g_law_take g_law_value g_law_condition)
theorem A_law_condition {g_law_take : PF} {g_law_value : PF} {g_law_condition : PF} {x0 x1 x2 : PV} {S : Store} : F_law_condition g_law_take g_law_value g_law_condition [x0, x1, x2] S = flo (D_law_condition g_law_take g_law_value g_law_condition [.fz x0, .fz x1, .fz x2, .un] S) := rfl
/-- _law_worth -/
noncomputable def D_law_worth (g_law_worth : PF) (g_law_plus : PF) (g_law_minus : PF) (g_law_times : PF) (g_law_min : PF) (g_law_max : PF) : Dns := (dSeq (dAsg 2 (dOp2 gIx (dBor 1) (dK (.int 0)))) (dSeq (dIfS (dOp2 gEq (dBor 2) (dK (.str (PySem.Str.ofString "number")))) (dSeq (dRet (dOp2 gIx (dBor 1) (dK (.int 1)))) dSkip) dSkip) (dSeq (dIfS (dOp2 gIn (dBor 2) (dTup (dCons (dK (.str (PySem.Str.ofString "buy"))) (dCons (dK (.str (PySem.Str.ofString "sell"))) dNil)))) (dSeq (dRet (dOp2 gIx (dOp2 gIx (dBor 0) (dOp2 gIx (dBor 1) (dK (.int 1)))) (dIf (dOp2 gEq (dBor 2) (dK (.str (PySem.Str.ofString "buy")))) (dK (.int 0)) (dK (.int 1))))) dSkip) dSkip) (dSeq (dAsg 3 (dCall g_law_worth (dCons (dVar 0) (dCons (dOp2 gIx (dBor 1) (dK (.int 1))) dNil)))) (dSeq (dAsg 4 (dCall g_law_worth (dCons (dVar 0) (dCons (dOp2 gIx (dBor 1) (dK (.int 2))) dNil)))) (dSeq (dIfS (dOp2 gEq (dBor 2) (dK (.str (PySem.Str.ofString "plus")))) (dSeq (dRet (dCall g_law_plus (dCons (dVar 3) (dCons (dVar 4) dNil)))) dSkip) dSkip) (dSeq (dIfS (dOp2 gEq (dBor 2) (dK (.str (PySem.Str.ofString "minus")))) (dSeq (dRet (dCall g_law_minus (dCons (dVar 3) (dCons (dVar 4) dNil)))) dSkip) dSkip) (dSeq (dIfS (dOp2 gEq (dBor 2) (dK (.str (PySem.Str.ofString "times")))) (dSeq (dRet (dCall g_law_times (dCons (dVar 3) (dCons (dVar 4) dNil)))) dSkip) dSkip) (dSeq (dRet (dIf (dOp2 gEq (dBor 2) (dK (.str (PySem.Str.ofString "least")))) (dCall g_law_min (dCons (dVar 3) (dCons (dVar 4) dNil))) (dCall g_law_max (dCons (dVar 3) (dCons (dVar 4) dNil))))) dSkip)))))))))
noncomputable abbrev F_law_worth (g_law_worth : PF) (g_law_plus : PF) (g_law_minus : PF) (g_law_times : PF) (g_law_min : PF) (g_law_max : PF) : PF := dDef 5 2 (D_law_worth g_law_worth g_law_plus g_law_minus g_law_times g_law_min g_law_max)
theorem A_law_worth {g_law_worth : PF} {g_law_plus : PF} {g_law_minus : PF} {g_law_times : PF} {g_law_min : PF} {g_law_max : PF} {x0 x1 : PV} {S : Store} : F_law_worth g_law_worth g_law_plus g_law_minus g_law_times g_law_min g_law_max [x0, x1] S = flo (D_law_worth g_law_worth g_law_plus g_law_minus g_law_times g_law_min g_law_max [.fz x0, .fz x1, .un, .un, .un] S) := rfl
/-- _law_so -/
noncomputable def D_law_so (g_law_so : PF) (g_law_worth : PF) (g_law_less : PF) : Dns := (dSeq (dAsg 2 (dOp2 gIx (dBor 1) (dK (.int 0)))) (dSeq (dIfS (dOp2 gEq (dBor 2) (dK (.str (PySem.Str.ofString "not")))) (dSeq (dRet (dNot (dCall g_law_so (dCons (dVar 0) (dCons (dOp2 gIx (dBor 1) (dK (.int 1))) dNil))))) dSkip) dSkip) (dSeq (dIfS (dOp2 gEq (dBor 2) (dK (.str (PySem.Str.ofString "and")))) (dSeq (dRet (dAnd (dCall g_law_so (dCons (dVar 0) (dCons (dOp2 gIx (dBor 1) (dK (.int 1))) dNil))) (dCall g_law_so (dCons (dVar 0) (dCons (dOp2 gIx (dBor 1) (dK (.int 2))) dNil))))) dSkip) dSkip) (dSeq (dAsg 3 (dCall g_law_worth (dCons (dVar 0) (dCons (dOp2 gIx (dBor 1) (dK (.int 1))) dNil)))) (dSeq (dAsg 4 (dCall g_law_worth (dCons (dVar 0) (dCons (dOp2 gIx (dBor 1) (dK (.int 2))) dNil)))) (dSeq (dRet (dIf (dOp2 gEq (dBor 2) (dK (.str (PySem.Str.ofString "less")))) (dCall g_law_less (dCons (dVar 3) (dCons (dVar 4) dNil))) (dOp2 gEq (dBor 3) (dBor 4)))) dSkip))))))
noncomputable abbrev F_law_so (g_law_so : PF) (g_law_worth : PF) (g_law_less : PF) : PF := dDef 5 2 (D_law_so g_law_so g_law_worth g_law_less)
theorem A_law_so {g_law_so : PF} {g_law_worth : PF} {g_law_less : PF} {x0 x1 : PV} {S : Store} : F_law_so g_law_so g_law_worth g_law_less [x0, x1] S = flo (D_law_so g_law_so g_law_worth g_law_less [.fz x0, .fz x1, .un, .un, .un] S) := rfl
/-- flat -/
noncomputable def D_flat  : Dns := (dSeq (dAsgO 1 (dLst dNil)) (dSeq (dAsgO 2 (dLst (dCons (dVar 0) dNil))) (dSeq (dWh (dOp2 gGt (dOp1 gLen (dBor 2)) (dK (.int 0))) (dSeq (dPop (tN 3) 2) (dSeq (dIfS (dOp2 gEq (dOp2 gIx (dBor 3) (dK (.int 0))) (dK (.str (PySem.Str.ofString "both")))) (dSeq (dAsgO 2 (dOp2 gAddL (dBor 2) (dLst (dCons (dOp2 gIx (dBor 3) (dK (.int 2))) (dCons (dOp2 gIx (dBor 3) (dK (.int 1))) dNil))))) dSkip) (dSeq (dIfS (dAnd (dOp2 gEq (dOp2 gIx (dBor 3) (dK (.int 0))) (dK (.str (PySem.Str.ofString "give")))) (dOp2 gEq (dOp2 gIx (dOp2 gIx (dBor 3) (dK (.int 1))) (dK (.int 0))) (dK (.str (PySem.Str.ofString "both"))))) (dSeq (dAsgO 2 (dOp2 gAddL (dBor 2) (dLst (dCons (dTup (dCons (dK (.str (PySem.Str.ofString "give"))) (dCons (dOp2 gIx (dOp2 gIx (dBor 3) (dK (.int 1))) (dK (.int 2))) dNil))) (dCons (dTup (dCons (dK (.str (PySem.Str.ofString "give"))) (dCons (dOp2 gIx (dOp2 gIx (dBor 3) (dK (.int 1))) (dK (.int 1))) dNil))) dNil))))) dSkip) (dSeq (dIfS (dAnd (dOp2 gEq (dOp2 gIx (dBor 3) (dK (.int 0))) (dK (.str (PySem.Str.ofString "give")))) (dOp2 gEq (dOp2 gIx (dOp2 gIx (dBor 3) (dK (.int 1))) (dK (.int 0))) (dK (.str (PySem.Str.ofString "give"))))) (dSeq (dApp' 2 (dOp2 gIx (dOp2 gIx (dBor 3) (dK (.int 1))) (dK (.int 1)))) dSkip) (dSeq (dIfS (dAnd (dOp2 gNe (dBor 3) (dTup (dCons (dK (.str (PySem.Str.ofString "nothing"))) dNil))) (dOp2 gNe (dBor 3) (dTup (dCons (dK (.str (PySem.Str.ofString "give"))) (dCons (dTup (dCons (dK (.str (PySem.Str.ofString "nothing"))) dNil)) dNil))))) (dSeq (dApp' 1 (dVar 3)) dSkip) dSkip) dSkip)) dSkip)) dSkip)) dSkip))) (dSeq (dRet (dOp1 gTuple (dBor 1))) dSkip))))
noncomputable abbrev F_flat  : PF := dDef 4 1 (D_flat )
theorem A_flat  {x0 : PV} {S : Store} : F_flat  [x0] S = flo (D_flat  [.fz x0, .un, .un, .un] S) := rfl
/-- netted -/
noncomputable def D_netted  : Dns := (dSeq (dAsg 1 (dOp1 gList (dBor 0))) (dSeq (dAsg 2 (dK (.int 0))) (dSeq (dWh (dOp2 gLt (dBor 2) (dOp1 gLen (dBor 1))) (dSeq (dAsg 3 (dNeg (dK (.int 1)))) (dSeq (dFor (dRng2 (dOp2 gAdd (dBor 2) (dK (.int 1))) (dOp1 gLen (dBor 1))) (tN 4) (dSeq (dIfS (dAnd (dOp2 gLt (dBor 3) (dK (.int 0))) (dOr (dOp2 gEq (dOp2 gIx (dBor 1) (dBor 4)) (dTup (dCons (dK (.str (PySem.Str.ofString "give"))) (dCons (dOp2 gIx (dBor 1) (dBor 2)) dNil)))) (dOp2 gEq (dOp2 gIx (dBor 1) (dBor 2)) (dTup (dCons (dK (.str (PySem.Str.ofString "give"))) (dCons (dOp2 gIx (dBor 1) (dBor 4)) dNil)))))) (dSeq (dAsg 3 (dVar 4)) dSkip) dSkip) dSkip)) (dSeq (dIfS (dOp2 gGe (dBor 3) (dK (.int 0))) (dSeq (dAsg 1 (dOp2 gAdd (dOp2 gAdd (dSl gSl (dBor 1) dNoPart (dPart (dVar 2))) (dSl gSl (dBor 1) (dPart (dOp2 gAdd (dBor 2) (dK (.int 1)))) (dPart (dVar 3)))) (dSl gSl (dBor 1) (dPart (dOp2 gAdd (dBor 3) (dK (.int 1)))) dNoPart))) dSkip) (dSeq (dAsg 2 (dOp2 gAdd (dBor 2) (dK (.int 1)))) dSkip)) dSkip)))) (dSeq (dRet (dOp1 gTuple (dBor 1))) dSkip))))
noncomputable abbrev F_netted  : PF := dDef 5 1 (D_netted )
theorem A_netted  {x0 : PV} {S : Store} : F_netted  [x0] S = flo (D_netted  [.fz x0, .un, .un, .un, .un] S) := rfl
/-- joined -/
noncomputable def D_joined  : Dns := (dSeq (dIfS (dOp2 gEq (dOp1 gLen (dBor 0)) (dK (.int 0))) (dSeq (dRet (dTup (dCons (dK (.str (PySem.Str.ofString "nothing"))) dNil))) dSkip) dSkip) (dSeq (dAsg 1 (dOp2 gIx (dBor 0) (dK (.int 0)))) (dSeq (dFor (dSeqI (dSl gSl (dBor 0) (dPart (dK (.int 1))) dNoPart)) (tN 2) (dSeq (dAsg 1 (dTup (dCons (dK (.str (PySem.Str.ofString "both"))) (dCons (dVar 1) (dCons (dVar 2) dNil))))) dSkip)) (dSeq (dRet (dVar 1)) dSkip))))
noncomputable abbrev F_joined  : PF := dDef 3 1 (D_joined )
theorem A_joined  {x0 : PV} {S : Store} : F_joined  [x0] S = flo (D_joined  [.fz x0, .un, .un] S) := rfl
/-- _law_contract -/
noncomputable def D_law_contract (g_law_take : PF) (g_law_value : PF) (g_law_contract : PF) (g_law_condition : PF) (g_law_number : PF) : Dns := (dSeq (dAsg 4 (dCall g_law_take (dCons (dVar 0) (dCons (dK (.int 15)) dNil)))) (dSeq (dIfS (dOr (dOp2 gEq (dBor 2) (dK (.int 0))) (dOp2 gLt (dBor 4) (dK (.int 2)))) (dSeq (dRet (dIf (dOp2 gEq (dBor 4) (dK (.int 0))) (dTup (dCons (dK (.str (PySem.Str.ofString "nothing"))) dNil)) (dTup (dCons (dK (.str (PySem.Str.ofString "one"))) (dCons (dCall g_law_take (dCons (dVar 0) (dCons (dVar 1) dNil))) dNil))))) dSkip) dSkip) (dSeq (dIfS (dOp2 gLt (dBor 4) (dK (.int 5))) (dSeq (dRet (dTup (dCons (dK (.str (PySem.Str.ofString "scale"))) (dCons (dCall g_law_value (dCons (dVar 0) (dCons (dVar 1) (dCons (dK (.int 1)) dNil)))) (dCons (dCall g_law_contract (dCons (dVar 0) (dCons (dVar 1) (dCons (dOp2 gSub (dBor 2) (dK (.int 1))) (dCons (dVar 3) dNil))))) dNil))))) dSkip) dSkip) (dSeq (dIfS (dOp2 gLt (dBor 4) (dK (.int 7))) (dSeq (dRet (dTup (dCons (dK (.str (PySem.Str.ofString "both"))) (dCons (dCall g_law_contract (dCons (dVar 0) (dCons (dVar 1) (dCons (dOp2 gSub (dBor 2) (dK (.int 1))) (dCons (dVar 3) dNil))))) (dCons (dCall g_law_contract (dCons (dVar 0) (dCons (dVar 1) (dCons (dOp2 gSub (dBor 2) (dK (.int 1))) (dCons (dK (.int 0)) dNil))))) dNil))))) dSkip) dSkip) (dSeq (dIfS (dOp2 gEq (dBor 4) (dK (.int 7))) (dSeq (dRet (dTup (dCons (dK (.str (PySem.Str.ofString "give"))) (dCons (dCall g_law_contract (dCons (dVar 0) (dCons (dVar 1) (dCons (dOp2 gSub (dBor 2) (dK (.int 1))) (dCons (dVar 3) dNil))))) dNil)))) dSkip) dSkip) (dSeq (dIfS (dOp2 gEq (dBor 4) (dK (.int 8))) (dSeq (dRet (dTup (dCons (dK (.str (PySem.Str.ofString "at"))) (dCons (dCall g_law_take (dCons (dVar 0) (dCons (dK (.int 4)) dNil))) (dCons (dCall g_law_contract (dCons (dVar 0) (dCons (dVar 1) (dCons (dOp2 gSub (dBor 2) (dK (.int 1))) (dCons (dVar 3) dNil))))) dNil))))) dSkip) dSkip) (dSeq (dIfS (dOp2 gEq (dBor 4) (dK (.int 9))) (dSeq (dRet (dTup (dCons (dK (.str (PySem.Str.ofString "when"))) (dCons (dCall g_law_condition (dCons (dVar 0) (dCons (dVar 1) (dCons (dK (.int 1)) dNil)))) (dCons (dCall g_law_contract (dCons (dVar 0) (dCons (dVar 1) (dCons (dOp2 gSub (dBor 2) (dK (.int 1))) (dCons (dVar 3) dNil))))) dNil))))) dSkip) dSkip) (dSeq (dIfS (dOp2 gEq (dBor 4) (dK (.int 10))) (dSeq (dRet (dTup (dCons (dK (.str (PySem.Str.ofString "until"))) (dCons (dCall g_law_condition (dCons (dVar 0) (dCons (dVar 1) (dCons (dK (.int 1)) dNil)))) (dCons (dCall g_law_contract (dCons (dVar 0) (dCons (dVar 1) (dCons (dOp2 gSub (dBor 2) (dK (.int 1))) (dCons (dVar 3) dNil))))) dNil))))) dSkip) dSkip) (dSeq (dIfS (dOp2 gEq (dBor 4) (dK (.int 11))) (dSeq (dRet (dTup (dCons (dK (.str (PySem.Str.ofString "later"))) (dCons (dCall g_law_contract (dCons (dVar 0) (dCons (dVar 1) (dCons (dOp2 gSub (dBor 2) (dK (.int 1))) (dCons (dVar 3) dNil))))) dNil)))) dSkip) dSkip) (dSeq (dIfS (dOp2 gEq (dBor 3) (dK (.int 0))) (dSeq (dRet (dTup (dCons (dK (.str (PySem.Str.ofString "scale"))) (dCons (dCall g_law_number (dCons (dVar 0) dNil)) (dCons (dTup (dCons (dK (.str (PySem.Str.ofString "one"))) (dCons (dCall g_law_take (dCons (dVar 0) (dCons (dVar 1) dNil))) dNil))) dNil))))) dSkip) dSkip) (dSeq (dIfS (dOp2 gLt (dBor 4) (dK (.int 14))) (dSeq (dRet (dTup (dCons (dK (.str (PySem.Str.ofString "or"))) (dCons (dCall g_law_contract (dCons (dVar 0) (dCons (dVar 1) (dCons (dOp2 gSub (dBor 2) (dK (.int 1))) (dCons (dOp2 gSub (dBor 3) (dK (.int 1))) dNil))))) (dCons (dCall g_law_contract (dCons (dVar 0) (dCons (dVar 1) (dCons (dOp2 gSub (dBor 2) (dK (.int 1))) (dCons (dK (.int 0)) dNil))))) dNil))))) dSkip) dSkip) (dSeq (dRet (dTup (dCons (dK (.str (PySem.Str.ofString "early"))) (dCons (dCall g_law_take (dCons (dVar 0) (dCons (dK (.int 3)) dNil))) (dCons (dCall g_law_contract (dCons (dVar 0) (dCons (dVar 1) (dCons (dOp2 gSub (dBor 2) (dK (.int 1))) (dCons (dK (.int 0)) dNil))))) dNil))))) dSkip))))))))))))
noncomputable abbrev F_law_contract (g_law_take : PF) (g_law_value : PF) (g_law_contract : PF) (g_law_condition : PF) (g_law_number : PF) : PF := dDef 5 4 (D_law_contract g_law_take g_law_value g_law_contract g_law_condition g_law_number)
theorem A_law_contract {g_law_take : PF} {g_law_value : PF} {g_law_contract : PF} {g_law_condition : PF} {g_law_number : PF} {x0 x1 x2 x3 : PV} {S : Store} : F_law_contract g_law_take g_law_value g_law_contract g_law_condition g_law_number [x0, x1, x2, x3] S = flo (D_law_contract g_law_take g_law_value g_law_contract g_law_condition g_law_number [.fz x0, .fz x1, .fz x2, .fz x3, .un] S) := rfl
/-- parts_in -/
noncomputable def D_parts_in  : Dns := (dSeq (dIfS (dOr (dOp2 gIn (dOp2 gIx (dBor 0) (dK (.int 0))) (dK (.tup [(.str (PySem.Str.ofString "one")), (.str (PySem.Str.ofString "buy")), (.str (PySem.Str.ofString "sell"))]))) (dOp2 gIn (dOp2 gIx (dBor 0) (dK (.int 0))) (dTup (dCons (dK (.str (PySem.Str.ofString "number"))) (dCons (dK (.str (PySem.Str.ofString "nothing"))) dNil))))) (dSeq (dRet (dTup dNil)) dSkip) dSkip) (dSeq (dIfS (dOp2 gIn (dOp2 gIx (dBor 0) (dK (.int 0))) (dK (.tup [(.str (PySem.Str.ofString "at")), (.str (PySem.Str.ofString "early"))]))) (dSeq (dRet (dSl gSl (dBor 0) (dPart (dK (.int 2))) dNoPart)) dSkip) dSkip) (dSeq (dRet (dSl gSl (dBor 0) (dPart (dK (.int 1))) dNoPart)) dSkip)))
noncomputable abbrev F_parts_in  : PF := dDef 1 1 (D_parts_in )
theorem A_parts_in  {x0 : PV} {S : Store} : F_parts_in  [x0] S = flo (D_parts_in  [.fz x0] S) := rfl
/-- size_of -/
noncomputable def D_size_of (gparts_in : PF) (gsize_of : PF) : Dns := (dSeq (dRet (dOp2 gAdd (dK (.int 1)) (dOp1 gSum (dLc (dSeqI (dCall gparts_in (dCons (dVar 0) dNil))) (tN 1) dTrue (dCall gsize_of (dCons (dVar 1) dNil)) [1])))) dSkip)
noncomputable abbrev F_size_of (gparts_in : PF) (gsize_of : PF) : PF := dDef 2 1 (D_size_of gparts_in gsize_of)
theorem A_size_of {gparts_in : PF} {gsize_of : PF} {x0 : PV} {S : Store} : F_size_of gparts_in gsize_of [x0] S = flo (D_size_of gparts_in gsize_of [.fz x0, .un] S) := rfl
/-- depth_of -/
noncomputable def D_depth_of (gparts_in : PF) (gdepth_of : PF) : Dns := (dSeq (dRet (dOp2 gAdd (dK (.int 1)) (dOp1 gMax (dOp2 gAdd (dLst (dCons (dK (.int 0)) dNil)) (dLc (dSeqI (dCall gparts_in (dCons (dVar 0) dNil))) (tN 1) dTrue (dCall gdepth_of (dCons (dVar 1) dNil)) [1]))))) dSkip)
noncomputable abbrev F_depth_of (gparts_in : PF) (gdepth_of : PF) : PF := dDef 2 1 (D_depth_of gparts_in gdepth_of)
theorem A_depth_of {gparts_in : PF} {gdepth_of : PF} {x0 : PV} {S : Store} : F_depth_of gparts_in gdepth_of [x0] S = flo (D_depth_of gparts_in gdepth_of [.fz x0, .un] S) := rfl
/-- right_part -/
noncomputable def D_right_part (gparts_in : PF) (gright_part : PF) : Dns := (dSeq (dIfS (dAnd (dOp2 gIn (dOp2 gIx (dBor 1) (dK (.int 0))) (dK (.tup [(.str (PySem.Str.ofString "one")), (.str (PySem.Str.ofString "buy")), (.str (PySem.Str.ofString "sell"))]))) (dNot (dChain gLe gLt (dK (.int 0)) (dOp2 gIx (dBor 1) (dK (.int 1))) (dVar 0)))) (dSeq (dRet (dK (.bl false))) dSkip) dSkip) (dSeq (dIfS (dAnd (dOp2 gIn (dOp2 gIx (dBor 1) (dK (.int 0))) (dK (.tup [(.str (PySem.Str.ofString "at")), (.str (PySem.Str.ofString "early"))]))) (dOp2 gLt (dOp2 gIx (dBor 1) (dK (.int 1))) (dK (.int 0)))) (dSeq (dRet (dK (.bl false))) dSkip) dSkip) (dSeq (dRet (dOp1 gAll (dLc (dSeqI (dCall gparts_in (dCons (dVar 1) dNil))) (tN 2) dTrue (dCall gright_part (dCons (dVar 0) (dCons (dVar 2) dNil))) [2]))) dSkip)))
noncomputable abbrev F_right_part (gparts_in : PF) (gright_part : PF) : PF := dDef 3 2 (D_right_part gparts_in gright_part)
theorem A_right_part {gparts_in : PF} {gright_part : PF} {x0 x1 : PV} {S : Store} : F_right_part gparts_in gright_part [x0, x1] S = flo (D_right_part gparts_in gright_part [.fz x0, .fz x1, .un] S) := rfl
/-- check_contract -/
noncomputable def D_check_contract (gright_part : PF) (gsize_of : PF) (gdepth_of : PF) : Dns := (dSeq (dIfS (dOr (dNot (dCall gright_part (dCons (dVar 0) (dCons (dVar 1) dNil)))) (dOr (dOp2 gGt (dCall gsize_of (dCons (dVar 1) dNil)) (dK (.int 40))) (dOp2 gGt (dCall gdepth_of (dCons (dVar 1) dNil)) (dK (.int 20))))) (dSeq (dRaise .contract) dSkip) dSkip) dSkip)
noncomputable abbrev F_check_contract (gright_part : PF) (gsize_of : PF) (gdepth_of : PF) : PF := dDef 2 2 (D_check_contract gright_part gsize_of gdepth_of)
theorem A_check_contract {gright_part : PF} {gsize_of : PF} {gdepth_of : PF} {x0 x1 : PV} {S : Store} : F_check_contract gright_part gsize_of gdepth_of [x0, x1] S = flo (D_check_contract gright_part gsize_of gdepth_of [.fz x0, .fz x1] S) := rfl
/-- check_program -/
noncomputable def D_check_program  : Dns := (dSeq (dAsgT (tT [1, 2]) (dVar 0)) (dSeq (dFor (dSeqI (dVar 2)) (tT [3, 4]) (dSeq (dIfS (dOp2 gNe (dOp1 gLen (dBor 3)) (dOp1 gLen (dBor 1))) (dSeq (dRaise .program) dSkip) dSkip) dSkip)) (dSeq (dIfS (dOr (dOp2 gGt (dOp1 gLen (dBor 1)) (dK (.int 200))) (dOp2 gGt (dOp1 gLen (dBor 2)) (dK (.int 120)))) (dSeq (dRaise .tooLarge) dSkip) dSkip) dSkip)))
noncomputable abbrev F_check_program  : PF := dDef 5 1 (D_check_program )
theorem A_check_program  {x0 : PV} {S : Store} : F_check_program  [x0] S = flo (D_check_program  [.fz x0, .un, .un, .un, .un] S) := rfl
/-- best_of -/
noncomputable def D_best_of (gcheck_program : PF) (gsolved : PF) : Dns := (dSeq (dEx (dCall gcheck_program (dCons (dVar 0) dNil))) (dSeq (dRet (dCall gsolved (dCons (dOp2 gIx (dBor 0) (dK (.int 0))) (dCons (dOp2 gIx (dBor 0) (dK (.int 1))) dNil)))) dSkip))
noncomputable abbrev F_best_of (gcheck_program : PF) (gsolved : PF) : PF := dDef 1 1 (D_best_of gcheck_program gsolved)
theorem A_best_of {gcheck_program : PF} {gsolved : PF} {x0 : PV} {S : Store} : F_best_of gcheck_program gsolved [x0] S = flo (D_best_of gcheck_program gsolved [.fz x0] S) := rfl
/-- negative -/
noncomputable def D_negative  : Dns := (dSeq (dRet (dTup (dCons (dNeg (dOp2 gIx (dBor 0) (dK (.int 0)))) (dCons (dOp2 gIx (dBor 0) (dK (.int 1))) dNil)))) dSkip)
noncomputable abbrev F_negative  : PF := dDef 1 1 (D_negative )
theorem A_negative  {x0 : PV} {S : Store} : F_negative  [x0] S = flo (D_negative  [.fz x0] S) := rfl
/-- total -/
noncomputable def D_total (gplus : PF) : Dns := (dSeq (dAsg 1 (dK (.tup [(.int 0), (.int 1)]))) (dSeq (dFor (dSeqI (dVar 0)) (tN 2) (dSeq (dAsg 1 (dCall gplus (dCons (dVar 1) (dCons (dVar 2) dNil)))) dSkip)) (dSeq (dRet (dVar 1)) dSkip)))
noncomputable abbrev F_total (gplus : PF) : PF := dDef 3 1 (D_total gplus)
theorem A_total {gplus : PF} {x0 : PV} {S : Store} : F_total gplus [x0] S = flo (D_total gplus [.fz x0, .un, .un] S) := rfl
/-- grown_node -/
noncomputable def D_grown_node (gtimes : PF) (gplus : PF) (gminus : PF) (ggrown_node : PF) : Dns := (dSeq (dAsg 4 (dOp1 gTuple (dLc (dSeqI (dVar 0)) (tN 8) dTrue (dTup (dCons (dCall gtimes (dCons (dVar 8) (dCons (dCall gplus (dCons (dK (.tup [(.int 1), (.int 1)])) (dCons (dVar 3) dNil))) dNil))) (dCons (dCall gtimes (dCons (dVar 8) (dCons (dCall gminus (dCons (dK (.tup [(.int 1), (.int 1)])) (dCons (dVar 3) dNil))) dNil))) dNil))) [8]))) (dSeq (dAsgO 5 (dLst dNil)) (dSeq (dIfS (dOp2 gGt (dBor 2) (dK (.int 0))) (dSeq (dFor (dSeqI (dVar 1)) (tN 6) (dSeq (dAsg 7 (dLc (dRng1 (dOp1 gLen (dBor 0))) (tN 9) dTrue (dCall gtimes (dCons (dOp2 gIx (dBor 0) (dBor 9)) (dCons (dOp2 gIx (dBor 6) (dBor 9)) dNil))) [9])) (dSeq (dApp' 5 (dCall ggrown_node (dCons (dVar 7) (dCons (dVar 1) (dCons (dOp2 gSub (dBor 2) (dK (.int 1))) (dCons (dVar 3) dNil)))))) dSkip))) dSkip) dSkip) (dSeq (dRet (dTup (dCons (dVar 4) (dCons (dOp1 gTuple (dBor 5)) dNil)))) dSkip))))
noncomputable abbrev F_grown_node (gtimes : PF) (gplus : PF) (gminus : PF) (ggrown_node : PF) : PF := dDef 10 4 (D_grown_node gtimes gplus gminus ggrown_node)
theorem A_grown_node {gtimes : PF} {gplus : PF} {gminus : PF} {ggrown_node : PF} {x0 x1 x2 x3 : PV} {S : Store} : F_grown_node gtimes gplus gminus ggrown_node [x0, x1, x2, x3] S = flo (D_grown_node gtimes gplus gminus ggrown_node [.fz x0, .fz x1, .fz x2, .fz x3, .un, .un, .un, .un, .un, .un] S) := rfl
/-- right_moves -/
noncomputable def D_right_moves  : Dns := (dSeq (dRet (dOp1 gAll (dLc (dSeqI (dVar 1)) (tN 2) dTrue (dAnd (dOp2 gEq (dOp1 gLen (dBor 2)) (dOp1 gLen (dBor 0))) (dOp1 gAll (dLc (dSeqI (dVar 2)) (tN 3) dTrue (dOp2 gGt (dOp2 gIx (dBor 3) (dK (.int 0))) (dK (.int 0))) [3]))) [2]))) dSkip)
noncomputable abbrev F_right_moves  : PF := dDef 4 2 (D_right_moves )
theorem A_right_moves  {x0 x1 : PV} {S : Store} : F_right_moves  [x0, x1] S = flo (D_right_moves  [.fz x0, .fz x1, .un, .un] S) := rfl
/-- grown -/
noncomputable def D_grown (gright_moves : PF) (gcompare : PF) (ggrown_node : PF) : Dns := (dSeq (dAsg 4 (dAnd (dOp2 gLt (dOp1 gLen (dBor 0)) (dK (.int 4))) (dAnd (dOp1 gAll (dLc (dSeqI (dVar 0)) (tN 8) dTrue (dOp2 gGe (dOp2 gIx (dBor 8) (dK (.int 0))) (dK (.int 0))) [8])) (dCall gright_moves (dCons (dVar 0) (dCons (dVar 1) dNil)))))) (dSeq (dAsg 4 (dAnd (dVar 4) (dAnd (dChain gLe gLe (dK (.int 0)) (dVar 2) (dK (.int 5))) (dOr (dOp2 gEq (dBor 2) (dK (.int 0))) (dOp2 gGt (dOp1 gLen (dBor 1)) (dK (.int 0))))))) (dSeq (dIfS (dOr (dNot (dVar 4)) (dOr (dOp2 gLt (dOp2 gIx (dBor 3) (dK (.int 0))) (dK (.int 0))) (dOp2 gGe (dCall gcompare (dCons (dVar 3) (dCons (dK (.tup [(.int 1), (.int 1)])) dNil))) (dK (.int 0))))) (dSeq (dRaise .market) dSkip) dSkip) (dSeq (dAsg 5 (dK (.int 1))) (dSeq (dAsg 6 (dK (.int 1))) (dSeq (dFor (dRng1 (dVar 2)) (tN 7) (dSeq (dAsg 6 (dOp2 gMul (dBor 6) (dOp1 gLen (dBor 1)))) (dSeq (dAsg 5 (dOp2 gAdd (dBor 5) (dBor 6))) dSkip))) (dSeq (dIfS (dOp2 gGt (dBor 5) (dK (.int 40))) (dSeq (dRaise .tooLarge) dSkip) dSkip) (dSeq (dRet (dTup (dCons (dOp2 gAdd (dOp1 gLen (dBor 0)) (dK (.int 1))) (dCons (dCall ggrown_node (dCons (dVar 0) (dCons (dVar 1) (dCons (dVar 2) (dCons (dVar 3) dNil))))) dNil)))) dSkip))))))))
noncomputable abbrev F_grown (gright_moves : PF) (gcompare : PF) (ggrown_node : PF) : PF := dDef 9 4 (D_grown gright_moves gcompare ggrown_node)
theorem A_grown {gright_moves : PF} {gcompare : PF} {ggrown_node : PF} {x0 x1 x2 x3 : PV} {S : Store} : F_grown gright_moves gcompare ggrown_node [x0, x1, x2, x3] S = flo (D_grown gright_moves gcompare ggrown_node [.fz x0, .fz x1, .fz x2, .fz x3, .un, .un, .un, .un, .un] S) := rfl
/-- whole -/
noncomputable def D_whole  : Dns := (dSeq (dRet (dLc (dSeqI (dVar 0)) (tT [2, 3]) dTrue (dOp2 gMul (dBor 2) (dOp2 gDiv (dBor 1) (dBor 3))) [2, 3])) dSkip)
noncomputable abbrev F_whole  : PF := dDef 4 2 (D_whole )
theorem A_whole  {x0 x1 : PV} {S : Store} : F_whole  [x0, x1] S = flo (D_whole  [.fz x0, .fz x1, .un, .un] S) := rfl
/-- end_row -/
noncomputable def D_end_row (gprices_of : PF) (gnegative : PF) : Dns := (dSeq (dAsgO 4 (dLst dNil)) (dSeq (dFor (dSeqI (dVar 3)) (tT [5, 6, 7]) (dSeq (dIfS (dOp2 gNe (dBor 5) (dSl gSl (dBor 1) dNoPart (dPart (dOp1 gLen (dBor 5))))) (dSeq (dApp' 4 (dK (.tup [(.int 0), (.int 1)]))) dSkip) (dSeq (dIfS (dOp2 gEq (dBor 2) (dK (.int 0))) (dSeq (dAsg 8 (dOp2 gIx (dOp2 gIx (dCall gprices_of (dCons (dVar 0) (dCons (dVar 5) dNil))) (dBor 6)) (dBor 7))) (dSeq (dApp' 4 (dIf (dOp2 gEq (dBor 7) (dK (.int 0))) (dVar 8) (dCall gnegative (dCons (dVar 8) dNil)))) dSkip)) (dSeq (dIfS (dOp2 gEq (dBor 2) (dBor 6)) (dSeq (dApp' 4 (dIf (dOp2 gEq (dBor 7) (dK (.int 0))) (dTup (dCons (dNeg (dK (.int 1))) (dCons (dK (.int 1)) dNil))) (dTup (dCons (dK (.int 1)) (dCons (dK (.int 1)) dNil))))) dSkip) (dSeq (dApp' 4 (dK (.tup [(.int 0), (.int 1)]))) dSkip)) dSkip)) dSkip)) dSkip)) (dSeq (dRet (dOp1 gTuple (dBor 4))) dSkip)))
noncomputable abbrev F_end_row (gprices_of : PF) (gnegative : PF) : PF := dDef 9 4 (D_end_row gprices_of gnegative)
theorem A_end_row {gprices_of : PF} {gnegative : PF} {x0 x1 x2 x3 : PV} {S : Store} : F_end_row gprices_of gnegative [x0, x1, x2, x3] S = flo (D_end_row gprices_of gnegative [.fz x0, .fz x1, .fz x2, .fz x3, .un, .un, .un, .un, .un] S) := rfl
/-- fair_weights -/
noncomputable def D_fair_weights (gplus : PF) (gtotal : PF) (gover : PF) : Dns := (dSeq (dAsgO 3 (dLst dNil)) (dSeq (dFor (dRng1 (dOp1 gLen (dBor 1))) (tN 4) (dSeq (dAsgO 6 (dOp1 gList (dSl gSl (dBor 2) (dPart (dOp2 gMul (dBor 4) (dBor 0))) (dPart (dOp2 gMul (dOp2 gAdd (dBor 4) (dK (.int 1))) (dBor 0)))))) (dSeq (dSetN 6 (dK (.int 0)) (dCall gplus (dCons (dOp2 gIx (dBor 6) (dK (.int 0))) (dCons (dTup (dCons (dK (.int 1)) (dCons (dK (.int 1)) dNil))) dNil)))) (dSeq (dSeq (dFz 6) (dApp' 3 (dVar 6))) dSkip)))) (dSeq (dSeq (dFz 3) (dAsg 5 (dCall gtotal (dCons (dLc (dSeqI (dVar 3)) (tN 6) dTrue (dOp2 gIx (dBor 6) (dK (.int 0))) [6]) dNil)))) (dSeq (dRet (dOp1 gTuple (dLc (dRng1 (dOp1 gLen (dBor 1))) (tN 4) dTrue (dTup (dCons (dOp2 gIx (dBor 1) (dBor 4)) (dCons (dOp1 gTuple (dLc (dSeqI (dOp2 gIx (dBor 3) (dBor 4))) (tN 7) dTrue (dCall gover (dCons (dVar 7) (dCons (dVar 5) dNil))) [7])) dNil))) [4]))) dSkip))))
noncomputable abbrev F_fair_weights (gplus : PF) (gtotal : PF) (gover : PF) : PF := dDef 8 3 (D_fair_weights gplus gtotal gover)
theorem A_fair_weights {gplus : PF} {gtotal : PF} {gover : PF} {x0 x1 x2 : PV} {S : Store} : F_fair_weights gplus gtotal gover [x0, x1, x2] S = flo (D_fair_weights gplus gtotal gover [.fz x0, .fz x1, .fz x2, .un, .un, .un, .un, .un] S) := rfl
/-- gain_of -/
noncomputable def D_gain_of (gend_list : PF) (gtrade_columns : PF) (gpath_list : PF) (gend_row : PF) (gminus : PF) (gsolved : PF) (gplan_of : PF) (gfair_weights : PF) : Dns := (dSeq (dAsg 1 (dOp2 gIx (dBor 0) (dK (.int 0)))) (dSeq (dAsg 2 (dCall gend_list (dCons (dVar 0) dNil))) (dSeq (dAsg 3 (dCall gtrade_columns (dCons (dCall gpath_list (dCons (dVar 0) dNil)) (dCons (dVar 1) dNil)))) (dSeq (dAsgO 4 (dLst dNil)) (dSeq (dAsg 5 (dOp2 gMul (dLst (dCons (dK (.tup [(.int 0), (.int 1)])) dNil)) (dOp1 gLen (dBor 3)))) (dSeq (dFor (dSeqI (dVar 2)) (tN 6) (dSeq (dFor (dRng1 (dVar 1)) (tN 8) (dSeq (dAsg 9 (dCall gend_row (dCons (dVar 0) (dCons (dVar 6) (dCons (dVar 8) (dCons (dVar 3) dNil)))))) (dSeq (dApp' 4 (dTup (dCons (dVar 9) (dCons (dK (.tup [(.int 0), (.int 1)])) dNil)))) (dSeq (dIfS (dOp2 gEq (dBor 8) (dK (.int 0))) (dSeq (dAsg 5 (dLc (dRng1 (dOp1 gLen (dBor 5))) (tN 10) dTrue (dCall gminus (dCons (dOp2 gIx (dBor 5) (dBor 10)) (dCons (dOp2 gIx (dBor 9) (dBor 10)) dNil))) [10])) dSkip) dSkip) dSkip)))) dSkip)) (dSeq (dAsg 7 (dCall gsolved (dCons (dOp1 gTuple (dBor 5)) (dCons (dOp1 gTuple (dBor 4)) dNil)))) (dSeq (dIfS (dOp2 gEq (dOp2 gIx (dBor 7) (dK (.int 0))) (dK (.str (PySem.Str.ofString "endless")))) (dSeq (dRet (dTup (dCons (dK (.str (PySem.Str.ofString "gain"))) (dCons (dCall gplan_of (dCons (dVar 1) (dCons (dVar 3) (dCons (dOp2 gIx (dBor 7) (dK (.int 2))) dNil)))) dNil)))) dSkip) dSkip) (dSeq (dRet (dTup (dCons (dK (.str (PySem.Str.ofString "fair"))) (dCons (dCall gfair_weights (dCons (dVar 1) (dCons (dVar 2) (dCons (dOp2 gIx (dBor 7) (dK (.int 2))) dNil)))) dNil)))) dSkip)))))))))
noncomputable abbrev F_gain_of (gend_list : PF) (gtrade_columns : PF) (gpath_list : PF) (gend_row : PF) (gminus : PF) (gsolved : PF) (gplan_of : PF) (gfair_weights : PF) : PF := dDef 11 1 (D_gain_of gend_list gtrade_columns gpath_list gend_row gminus gsolved gplan_of gfair_weights)
theorem A_gain_of {gend_list : PF} {gtrade_columns : PF} {gpath_list : PF} {gend_row : PF} {gminus : PF} {gsolved : PF} {gplan_of : PF} {gfair_weights : PF} {x0 : PV} {S : Store} : F_gain_of gend_list gtrade_columns gpath_list gend_row gminus gsolved gplan_of gfair_weights [x0] S = flo (D_gain_of gend_list gtrade_columns gpath_list gend_row gminus gsolved gplan_of gfair_weights [.fz x0, .un, .un, .un, .un, .un, .un, .un, .un, .un, .un] S) := rfl
/-- sure_gain -/
noncomputable def D_sure_gain (gcheck_market : PF) (ggain_of : PF) : Dns := (dSeq (dEx (dCall gcheck_market (dCons (dVar 0) dNil))) (dSeq (dRet (dCall ggain_of (dCons (dVar 0) dNil))) dSkip))
noncomputable abbrev F_sure_gain (gcheck_market : PF) (ggain_of : PF) : PF := dDef 1 1 (D_sure_gain gcheck_market ggain_of)
theorem A_sure_gain {gcheck_market : PF} {ggain_of : PF} {x0 : PV} {S : Store} : F_sure_gain gcheck_market ggain_of [x0] S = flo (D_sure_gain gcheck_market ggain_of [.fz x0] S) := rfl
end Py
/-! Fractions as pairs of ints: what the defs on them tell. -/
namespace Py
open L2

structure Fr where
  n : Int
  d : Int
abbrev Fr.pv (a : Fr) : PV := .tup [.int a.n, .int a.d]
def fmk (p q : Int) : Fr := ⟨frN p q, frD p q⟩
def Fr.add (a b : Fr) : Fr := fmk (a.n * b.d + b.n * a.d) (a.d * b.d)
def Fr.sub (a b : Fr) : Fr := fmk (a.n * b.d - b.n * a.d) (a.d * b.d)
def Fr.mul (a b : Fr) : Fr := fmk (a.n * b.n) (a.d * b.d)
def Fr.div (a b : Fr) : Fr := fmk (a.n * b.d) (a.d * b.n)
def Fr.lt (a b : Fr) : Bool := decide (a.n * b.d < b.n * a.d)
def Fr.cmp (a b : Fr) : Int := if a.n * b.d < b.n * a.d then -1 else if b.n * a.d < a.n * b.d then 1 else 0
abbrev Fr.zero : Fr := ⟨0, 1⟩
abbrev Fr.one : Fr := ⟨1, 1⟩
/-- a denominator above 0, both below 2 ^ k -/
structure Fr.bd (a : Fr) (k : Nat) : Prop where
  pos : 0 < a.d
  n : lt2 a.n k
  d : lt2 a.d k
theorem Fr.bd.mono {a : Fr} {k m : Nat} (h : a.bd k) (hm : k ≤ m) : a.bd m := ⟨h.pos, h.n.mono hm, h.d.mono hm⟩
theorem fmk_bd {p q : Int} {k : Nat} (h0 : q ≠ 0) (hp : lt2 p k) (hq : lt2 q k) : (fmk p q).bd k := ⟨frD_pos h0, hp.frN, hq.frD⟩
section
variable {a b : Fr} {i j : Nat}
theorem Fr.dd (ha : a.bd i) (hb : b.bd j) : a.d * b.d ≠ 0 := Int.ne_of_gt (Int.mul_pos ha.pos hb.pos)
theorem Fr.bd.add (ha : a.bd i) (hb : b.bd j) : (a.add b).bd (i + j + 1) :=
  fmk_bd (Fr.dd ha hb) ((ha.n.mul hb.d).add ((hb.n.mul ha.d).mono (by omega))) ((ha.d.mul hb.d).mono (by omega))
theorem Fr.bd.sub (ha : a.bd i) (hb : b.bd j) : (a.sub b).bd (i + j + 1) :=
  fmk_bd (Fr.dd ha hb) ((ha.n.mul hb.d).sub ((hb.n.mul ha.d).mono (by omega))) ((ha.d.mul hb.d).mono (by omega))
theorem Fr.bd.mul (ha : a.bd i) (hb : b.bd j) : (a.mul b).bd (i + j) := fmk_bd (Fr.dd ha hb) (ha.n.mul hb.n) (ha.d.mul hb.d)
theorem Fr.bd.div (ha : a.bd i) (hb : b.bd j) (h0 : b.n ≠ 0) : (a.div b).bd (i + j) := fmk_bd (Int.mul_ne_zero (Int.ne_of_gt ha.pos) h0) (ha.n.mul hb.d) (ha.d.mul hb.n)
end
/-! ### promises -/
abbrev FFrac (f : PF) : Prop := ∀ (p q : Int) S, q ≠ 0 → lt2 q 8000 → f [.int p, .int q] S = .ok (fmk p q).pv S
abbrev FAdd (f : PF) : Prop := ∀ (a b : Fr) S, a.bd 3000 → b.bd 3000 → f [a.pv, b.pv] S = .ok (a.add b).pv S
abbrev FSub (f : PF) : Prop := ∀ (a b : Fr) S, a.bd 3000 → b.bd 3000 → f [a.pv, b.pv] S = .ok (a.sub b).pv S
abbrev FMul (f : PF) : Prop := ∀ (a b : Fr) S, a.bd 3000 → b.bd 3000 → f [a.pv, b.pv] S = .ok (a.mul b).pv S
abbrev FDiv (f : PF) : Prop := ∀ (a b : Fr) S, a.bd 3000 → b.bd 3000 → b.n ≠ 0 → f [a.pv, b.pv] S = .ok (a.div b).pv S
abbrev FDiv0 (f : PF) : Prop := ∀ (a b : Fr) S, a.bd 3000 → b.bd 3000 → b.n = 0 → f [a.pv, b.pv] S = .exc .zeroDen S
abbrev FCmp (f : PF) : Prop := ∀ (a b : Fr) S, a.bd 3000 → b.bd 3000 → f [a.pv, b.pv] S = .ok (.int (a.cmp b)) S
abbrev FLess (f : PF) : Prop := ∀ (a b : Fr) S, a.bd 3000 → b.bd 3000 → f [a.pv, b.pv] S = .ok (.bl (a.lt b)) S
theorem fraction_F : FFrac F_fraction := fun p q S h hq => fraction_ok h hq
theorem lawf_F {g : PF} (hg : GcdOk g) : FFrac (F_law_f g) := fun p q S h hq => lawf_ok hg p q S h hq
section
variable {f : PF} {a b : Fr}
theorem okn (h : a.bd 3000) : okI a.n = true := h.n.ok (by decide)
theorem okd (h : a.bd 3000) : okI a.d = true := h.d.ok (by decide)
theorem dd8 (ha : a.bd 3000) (hb : b.bd 3000) : lt2 (a.d * b.d) 8000 := (ha.d.mul hb.d).mono (by decide)
theorem add_F (hf : FFrac f) : FAdd (F_plus f) := fun a b S ha hb => by
  refine Sat.eq ?_
  rw [A_plus]; unfold D_plus
  simp -implicitDefEqProofs only [EVc, Nat.reduceSub, Int.reduceLT, Int.reduceLE, Int.reduceEq, Int.reduceSub, Int.reduceAdd, Int.reduceMul, Int.reduceNeg, List.replicate, wipeE, List.replicate_zero, List.getElem?_cons_zero, List.getElem?_cons_succ, List.set_cons_succ, List.set_cons_zero, Option.map_some, if_true, if_false, l2_mul, okn ha, okd ha, okn hb, okd hb]
  rw [hf _ _ _ (Fr.dd ha hb) (dd8 ha hb)]
  exact ⟨rfl, rfl⟩
theorem sub_F (hf : FFrac f) : FSub (F_minus f) := fun a b S ha hb => by
  refine Sat.eq ?_
  rw [A_minus]; unfold D_minus
  simp -implicitDefEqProofs only [EVc, Nat.reduceSub, Int.reduceLT, Int.reduceLE, Int.reduceEq, Int.reduceSub, Int.reduceAdd, Int.reduceMul, Int.reduceNeg, List.replicate, wipeE, List.replicate_zero, List.getElem?_cons_zero, List.getElem?_cons_succ, List.set_cons_succ, List.set_cons_zero, Option.map_some, if_true, if_false, l2_mul, okn ha, okd ha, okn hb, okd hb]
  rw [hf _ _ _ (Fr.dd ha hb) (dd8 ha hb)]
  exact ⟨rfl, rfl⟩
theorem mul_F (hf : FFrac f) : FMul (F_times f) := fun a b S ha hb => by
  refine Sat.eq ?_
  rw [A_times]; unfold D_times
  simp -implicitDefEqProofs only [EVc, Nat.reduceSub, Int.reduceLT, Int.reduceLE, Int.reduceEq, Int.reduceSub, Int.reduceAdd, Int.reduceMul, Int.reduceNeg, List.replicate, wipeE, List.replicate_zero, List.getElem?_cons_zero, List.getElem?_cons_succ, List.set_cons_succ, List.set_cons_zero, Option.map_some, if_true, if_false, l2_mul, okn ha, okd ha, okn hb, okd hb]
  rw [hf _ _ _ (Fr.dd ha hb) (dd8 ha hb)]
  exact ⟨rfl, rfl⟩
theorem div_F (hf : FFrac f) : FDiv (F_over f) := fun a b S ha hb h0 => by
  refine Sat.eq ?_
  rw [A_over]; unfold D_over
  simp -implicitDefEqProofs only [EVc, Nat.reduceSub, Int.reduceLT, Int.reduceLE, Int.reduceEq, Int.reduceSub, Int.reduceAdd, Int.reduceMul, Int.reduceNeg, List.replicate, wipeE, List.replicate_zero, List.getElem?_cons_zero, List.getElem?_cons_succ, List.set_cons_succ, List.set_cons_zero, Option.map_some, if_true, if_false, l2_mul, okn ha, okd ha, okn hb, okd hb]
  rw [hf _ _ _ (Int.mul_ne_zero (Int.ne_of_gt ha.pos) h0) ((ha.d.mul hb.n).mono (by decide))]
  exact ⟨rfl, rfl⟩
theorem div0_F (hf : Frac0 f) : FDiv0 (F_over f) := fun a b S ha hb h0 => by
  refine Sat.eqE ?_
  rw [A_over]; unfold D_over
  simp -implicitDefEqProofs only [EVc, Nat.reduceSub, Int.reduceLT, Int.reduceLE, Int.reduceEq, Int.reduceSub, Int.reduceAdd, Int.reduceMul, Int.reduceNeg, List.replicate, wipeE, List.replicate_zero, List.getElem?_cons_zero, List.getElem?_cons_succ, List.set_cons_succ, List.set_cons_zero, Option.map_some, if_true, if_false, l2_mul, okn ha, okd ha, okn hb, okd hb]
  rw [h0, Int.mul_zero, hf]
  exact ⟨rfl, rfl⟩
theorem cmp_F : FCmp F_compare := fun a b S ha hb => by
  refine Sat.eq ?_
  rw [A_compare]; unfold D_compare
  simp -implicitDefEqProofs only [EVc, Nat.reduceSub, Int.reduceLT, Int.reduceLE, Int.reduceEq, Int.reduceSub, Int.reduceAdd, Int.reduceMul, Int.reduceNeg, List.replicate, wipeE, List.replicate_zero, List.getElem?_cons_zero, List.getElem?_cons_succ, List.set_cons_succ, List.set_cons_zero, Option.map_some, if_true, if_false, l2_mul, okn ha, okd ha, okn hb, okd hb]
  unfold Fr.cmp
  by_cases h1 : a.n * b.d < b.n * a.d
  · rw [if_pos h1, if_pos h1]; (try first | trivial | exact ⟨rfl, rfl⟩ | exact ⟨rfl, trivial⟩ | rfl)
  · rw [if_neg h1, if_neg h1]
    by_cases h2 : b.n * a.d < a.n * b.d
    · rw [if_pos h2, if_pos h2]; (try first | trivial | exact ⟨rfl, rfl⟩ | exact ⟨rfl, trivial⟩ | rfl)
    · rw [if_neg h2, if_neg h2]; (try first | trivial | exact ⟨rfl, rfl⟩ | exact ⟨rfl, trivial⟩ | rfl)
theorem less_F : FLess F_law_less := fun a b S ha hb => by
  refine Sat.eq ?_
  rw [A_law_less]; unfold D_law_less
  simp -implicitDefEqProofs only [EVc, Nat.reduceSub, Int.reduceLT, Int.reduceLE, Int.reduceEq, Int.reduceSub, Int.reduceAdd, Int.reduceMul, Int.reduceNeg, List.replicate, wipeE, List.replicate_zero, List.getElem?_cons_zero, List.getElem?_cons_succ, List.set_cons_succ, List.set_cons_zero, Option.map_some, if_true, if_false, l2_mul, okn ha, okd ha, okn hb, okd hb]
  (try first | trivial | exact ⟨rfl, rfl⟩ | exact ⟨rfl, trivial⟩ | rfl)
end
theorem ladd_F {f : PF} (hf : FFrac f) : FAdd (F_law_plus f) := add_F hf
theorem lsub_F {f : PF} (hf : FFrac f) : FSub (F_law_minus f) := sub_F hf
theorem lmul_F {f : PF} (hf : FFrac f) : FMul (F_law_times f) := mul_F hf
end Py
/-! Markets as trees; paths; their order. -/
namespace Py
open L2

abbrev PP := Fr × Fr
inductive Nd where
  | mk (ps : List PP) (ks : List Nd)
def Nd.ps : Nd → List PP
  | .mk ps _ => ps
def Nd.ks : Nd → List Nd
  | .mk _ ks => ks
abbrev ppv (p : PP) : PV := .tup [p.1.pv, p.2.pv]
mutual
def Nd.pv : Nd → PV
  | .mk ps ks => .tup [.tup (ps.map ppv), .tup (Nd.pvs ks)]
def Nd.pvs : List Nd → List PV
  | [] => []
  | n :: r => n.pv :: Nd.pvs r
end
theorem Nd.pvs_map : ∀ ks : List Nd, Nd.pvs ks = ks.map Nd.pv
  | [] => rfl
  | n :: r => by rw [Nd.pvs, Nd.pvs_map r]; rfl
theorem Nd.pv_eq (n : Nd) : n.pv = .tup [.tup (n.ps.map ppv), .tup (n.ks.map Nd.pv)] := by
  cases n with
  | mk ps ks => rw [Nd.pv, Nd.pvs_map]; rfl
abbrev Path := List Nat
abbrev pav (p : Path) : PV := .tup (p.map fun (k : Nat) => PV.int k)
abbrev itm (x : Path × Nd) : PV := .tup [pav x.1, x.2.pv]
/-! ### all moments, ascending -/
mutual
def pre (p : Path) : Nd → List (Path × Nd)
  | .mk ps ks => (p, .mk ps ks) :: pres p 0 ks
def pres (p : Path) (i : Nat) : List Nd → List (Path × Nd)
  | [] => []
  | n :: r => pre (p ++ [i]) n ++ pres p (i + 1) r
end
abbrev preT (x : Path × Nd) : List (Path × Nd) := pre x.1 x.2
/-- the places that come next -/
def kids (x : Path × Nd) : List (Path × Nd) := x.2.ks.zipIdx.map fun y => (x.1 ++ [y.2], y.1)
theorem pres_flat (p : Path) : ∀ (ks : List Nd) (i : Nat), pres p i ks = (ks.zipIdx i).flatMap fun y => pre (p ++ [y.2]) y.1
  | [], _ => rfl
  | n :: r, i => by rw [pres, pres_flat p r (i + 1), List.zipIdx_cons, List.flatMap_cons]
theorem pre_kids (x : Path × Nd) : preT x = x :: (kids x).flatMap preT := by
  obtain ⟨p, n⟩ := x
  cases n with
  | mk ps ks =>
    show pre p (.mk ps ks) = _
    rw [pre, pres_flat]
    unfold kids
    rw [List.flatMap_map]
    rfl
theorem pre_pos (x : Path × Nd) : 0 < (preT x).length := by rw [pre_kids]; exact Nat.succ_pos _
/-! ### where a path leads -/
def findN : Nd → Path → Option Nd
  | n, [] => some n
  | n, k :: p => match n.ks[k]? with
    | some m => findN m p
    | none => none
theorem findN_app : ∀ (p q : Path) (n : Nd), findN n (p ++ q) = (findN n p).bind fun m => findN m q
  | [], q, n => rfl
  | k :: p, q, n => by
    show (match n.ks[k]? with | some m => findN m (p ++ q) | none => none) = (match n.ks[k]? with | some m => findN m p | none => none).bind _
    cases n.ks[k]? with
    | none => rfl
    | some m => exact findN_app p q m
mutual
theorem pre_find (p : Path) : ∀ (n : Nd), ∀ x ∈ pre p n, ∃ q, x.1 = p ++ q ∧ findN n q = some x.2
  | .mk ps ks => fun x hx => by
    rw [pre] at hx
    rcases List.mem_cons.mp hx with rfl | hx
    · exact ⟨[], by simp, rfl⟩
    · obtain ⟨i, q, h1, h2, h3⟩ := pres_find p 0 ks x hx
      obtain ⟨m, h4, h5⟩ := h3
      rw [Nat.zero_add] at h1
      refine ⟨i :: q, h1, ?_⟩
      show (match ks[i]? with | some m => findN m q | none => none) = _
      rw [h4]; exact h5
theorem pres_find (p : Path) (i : Nat) : ∀ (ks : List Nd), ∀ x ∈ pres p i ks, ∃ j q, x.1 = p ++ (i + j) :: q ∧ j < ks.length ∧ ∃ m, ks[j]? = some m ∧ findN m q = some x.2
  | [] => fun x hx => nomatch hx
  | n :: r => fun x hx => by
    rw [pres] at hx
    rcases List.mem_append.mp hx with hx | hx
    · obtain ⟨q, h1, h2⟩ := pre_find (p ++ [i]) n x hx
      exact ⟨0, q, by rw [h1]; simp, by simp, n, rfl, h2⟩
    · obtain ⟨j, q, h1, h2, m, h3, h4⟩ := pres_find p (i + 1) r x hx
      exact ⟨j + 1, q, by rw [h1, Nat.add_right_comm, Nat.add_assoc], by simpa using h2, m, by simpa using h3, h4⟩
end
mutual
theorem find_pre (p : Path) : ∀ (n m : Nd) (q : Path), findN n q = some m → (p ++ q, m) ∈ pre p n
  | .mk ps ks, m, [], h => by
    cases h
    rw [pre, List.append_nil]; exact List.mem_cons_self
  | .mk ps ks, m, k :: q, h => by
    rw [pre]
    refine List.mem_cons_of_mem _ ?_
    have h : (match ks[k]? with | some m => findN m q | none => none) = some m := h
    cases e : ks[k]? with
    | none => rw [e] at h; cases h
    | some m' =>
      rw [e] at h
      have := find_pres p 0 ks m k q m' e h
      rwa [Nat.zero_add] at this
theorem find_pres (p : Path) (i : Nat) : ∀ (ks : List Nd) (m : Nd) (k : Nat) (q : Path) (m' : Nd), ks[k]? = some m' → findN m' q = some m → (p ++ (i + k) :: q, m) ∈ pres p i ks
  | [], m, k, q, m', e, _ => by simp at e
  | n :: r, m, 0, q, m', e, h => by
    cases (show some n = some m' from by simpa using e)
    rw [pres]
    have := find_pre (p ++ [i]) n m q h
    refine List.mem_append_left _ ?_
    simpa using this
  | n :: r, m, k + 1, q, m', e, h => by
    rw [pres]
    have := find_pres p (i + 1) r m k q m' (by simpa using e) h
    refine List.mem_append_right _ ?_
    rw [show i + (k + 1) = i + 1 + k by omega]
    exact this
end
/-! ### their order -/
theorem lt_app_cons (p : Path) (k : Nat) (q : Path) : p < p ++ k :: q := by
  induction p with
  | nil => exact List.nil_lt_cons _ _
  | cons a p ih => exact List.cons_lt_cons_iff.mpr (.inr ⟨rfl, ih⟩)
theorem lt_app_lt (p : Path) {i j : Nat} (h : i < j) (a b : Path) : p ++ i :: a < p ++ j :: b := by
  induction p with
  | nil => exact List.cons_lt_cons_iff.mpr (.inl h)
  | cons c p ih => exact List.cons_lt_cons_iff.mpr (.inr ⟨rfl, ih⟩)
mutual
theorem pre_asc (p : Path) : ∀ n : Nd, (pre p n).Pairwise fun a b => a.1 < b.1
  | .mk ps ks => by
    rw [pre]
    refine List.pairwise_cons.mpr ⟨fun x hx => ?_, pres_asc p 0 ks⟩
    obtain ⟨j, q, h1, _⟩ := pres_find p 0 ks x hx
    rw [h1]; exact lt_app_cons p _ q
theorem pres_asc (p : Path) (i : Nat) : ∀ ks : List Nd, (pres p i ks).Pairwise fun a b => a.1 < b.1
  | [] => .nil
  | n :: r => by
    rw [pres]
    refine List.pairwise_append.mpr ⟨pre_asc (p ++ [i]) n, pres_asc p (i + 1) r, fun x hx y hy => ?_⟩
    obtain ⟨q, h1, _⟩ := pre_find (p ++ [i]) n x hx
    obtain ⟨j, q', h2, _⟩ := pres_find p (i + 1) r y hy
    rw [h1, h2, List.append_assoc]
    exact lt_app_lt p (by omega) _ _
end
/-! ### paths as values -/
theorem plts_pa : ∀ p q : Path, plts (p.map fun (k : Nat) => PV.int k) (q.map fun (k : Nat) => PV.int k) = decide (p < q)
  | [], [] => (decide_eq_false (List.lt_irrefl (α := Nat) [])).symm
  | [], b :: q => (decide_eq_true (List.nil_lt_cons b q)).symm
  | a :: p, [] => (decide_eq_false (fun h => nomatch h)).symm
  | a :: p, b :: q => by
    show (if peqv (.int a) (.int b) = true then plts _ _ else plt (.int a) (.int b)) = _
    have e1 : peqv (.int a) (.int b) = decide ((a : Int) = b) := rfl
    have e2 : plt (.int a) (.int b) = decide ((a : Int) < b) := rfl
    rw [e1, e2, plts_pa p q]
    by_cases h : a = b
    · subst h
      rw [if_pos (by simp)]
      exact decide_eq_decide.mpr ⟨fun h => List.cons_lt_cons_iff.mpr (.inr ⟨rfl, h⟩), fun h => by
        rcases List.cons_lt_cons_iff.mp h with h | h
        · exact absurd h (Nat.lt_irrefl a)
        · exact h.2⟩
    · rw [if_neg (by simp; omega)]
      exact decide_eq_decide.mpr ⟨fun h => List.cons_lt_cons_iff.mpr (.inl (by omega)), fun h2 => by
        rcases List.cons_lt_cons_iff.mp h2 with h2 | h2
        · omega
        · exact absurd h2.1 h⟩
theorem plt_pa (p q : Path) : plt (pav p) (pav q) = decide (p < q) := plts_pa p q
theorem shp_pa (p : Path) : shp (pav p) = true := by
  show shps _ = true
  induction p with
  | nil => rfl
  | cons a p ih => show (true && shps _) = true; rw [ih]; rfl
theorem dep_pa (p : Path) : dep (pav p) = 1 := by
  show deps _ + 1 = 1
  have : deps (p.map fun (k : Nat) => PV.int k) = 0 := by
    induction p with
    | nil => rfl
    | cons a p ih => show max 0 (deps _) = 0; rw [ih]; rfl
  rw [this]
theorem pals_pa : ∀ p q : Path, pals (p.map fun (k : Nat) => PV.int k) (q.map fun (k : Nat) => PV.int k) = true
  | [], [] => rfl
  | [], _ :: _ => rfl
  | _ :: _, [] => rfl
  | a :: p, b :: q => by show (true && pals _ _) = true; rw [pals_pa p q]; rfl
theorem peqvs_pa : ∀ p q : Path, peqvs (p.map fun (k : Nat) => PV.int k) (q.map fun (k : Nat) => PV.int k) = decide (p = q)
  | [], [] => rfl
  | [], _ :: _ => rfl
  | _ :: _, [] => rfl
  | a :: p, b :: q => by
    show (decide ((a : Int) = b) && peqvs _ _) = _
    rw [peqvs_pa p q]
    by_cases h : a = b
    · subst h; simp
    · have : ¬ (a : Int) = b := by omega
      simp [h, this]
theorem peqv_pa (p q : Path) : peqv (pav p) (pav q) = decide (p = q) := peqvs_pa p q
section
variable {S : Store}
theorem eq_pa {p q : Path} : lift2 gEq (pav p) (pav q) S = .ok (.bl (decide (p = q))) S := by
  have e : pEq (pav p) (pav q) = some (decide (p = q)) := by
    show (if _ then some (peqv (pav p) (pav q)) else none) = _
    rw [shp_pa, shp_pa, dep_pa, dep_pa, peqv_pa]; rfl
  show (match (pEq (pav p) (pav q)).map PV.bl with | some z => Res.ok z S | none => .bad) = _
  rw [e]; rfl
theorem ne_pa {p q : Path} : lift2 gNe (pav p) (pav q) S = .ok (.bl (!decide (p = q))) S := by
  have e : pEq (pav p) (pav q) = some (decide (p = q)) := by
    show (if _ then some (peqv (pav p) (pav q)) else none) = _
    rw [shp_pa, shp_pa, dep_pa, dep_pa, peqv_pa]; rfl
  show (match (pEq (pav p) (pav q)).map (fun b => PV.bl (!b)) with | some z => Res.ok z S | none => .bad) = _
  rw [e]; rfl
/-! ### sorted -/
theorem can_pa (l : List Path) : canSort (l.map pav) = true := by
  have h1 : shps (l.map pav) = true := by
    induction l with
    | nil => rfl
    | cons p l ih => show (shp (pav p) && shps _) = true; rw [shp_pa, ih]; rfl
  have h2 : deps (l.map pav) ≤ 60 := by
    induction l with
    | nil => exact Nat.zero_le _
    | cons p l ih =>
      show max (dep (pav p)) (deps _) ≤ 60
      have := ih (by
        simp only [List.map_cons, shps, Bool.and_eq_true] at h1
        exact h1.2)
      rw [dep_pa]; omega
  unfold canSort
  rw [h1, decide_eq_true h2, Bool.and_eq_true, Bool.and_eq_true, Bool.or_eq_true]
  refine ⟨⟨rfl, ?_⟩, .inl ?_⟩
  · simp only [List.all_eq_true, List.mem_map]
    rintro _ ⟨p, _, rfl⟩ _ ⟨q, _, rfl⟩
    exact pals_pa p q
  · simp only [List.all_eq_true, List.mem_map]
    rintro _ ⟨p, _, rfl⟩
    rfl
theorem sort_pa {l m : List Path} (hm : m.Pairwise (· < ·)) (hp : l.Perm m) : lift1 gSorted (.lst (l.map pav)) S = .ok (.lst (m.map pav)) S := by
  have e : (l.map pav).mergeSort (fun a b => !plt b a) = m.map pav := by
    rw [← List.map_mergeSort (r := fun a b : Path => !decide (b < a)) (f := pav) (fun a _ b _ => by rw [plt_pa])]
    congr 1
    have tr : ∀ a b c : Path, (!decide (b < a)) = true → (!decide (c < b)) = true → (!decide (c < a)) = true := fun a b c h1 h2 => by
      simp only [Bool.not_eq_true', decide_eq_false_iff_not] at *
      exact List.not_lt.mpr (List.le_trans (List.not_lt.mp h1) (List.not_lt.mp h2))
    have tot : ∀ a b : Path, ((!decide (b < a)) || (!decide (a < b))) = true := fun a b => by
      simp only [Bool.or_eq_true, Bool.not_eq_true', decide_eq_false_iff_not]
      rcases List.le_total a b with h | h
      · exact .inl (List.not_lt.mpr h)
      · exact .inr (List.not_lt.mpr h)
    refine List.Perm.eq_of_pairwise (le := fun a b : Path => (!decide (b < a)) = true) (fun a b _ _ h1 h2 => ?_) (List.pairwise_mergeSort tr tot l) (hm.imp fun {a b} h => ?_) ((List.mergeSort_perm l _).trans hp)
    · simp only [Bool.not_eq_true', decide_eq_false_iff_not] at h1 h2
      exact List.le_antisymm (List.not_lt.mp h1) (List.not_lt.mp h2)
    · simp only [Bool.not_eq_true', decide_eq_false_iff_not]
      exact fun h2 => List.lt_irrefl a (List.lt_trans h h2)
  show (match (if canSort (l.map pav) = true then some (PV.lst ((l.map pav).mergeSort fun a b => !plt b a)) else none) with | some z => Res.ok z S | none => .bad) = _
  rw [if_pos (can_pa l), e]
end
theorem pre_fst_asc (n : Nd) : ((pre [] n).map (·.1)).Pairwise (· < ·) := List.pairwise_map.mpr (pre_asc [] n)
end Py
/-! Markets: the defs that walk them. -/
namespace Py
open L2

structure Nd.Ok (n : Nd) : Prop where
  many : (pre [] n).length ≤ 1000
  deep : ∀ x ∈ pre [] n, x.1.length ≤ 6
  nums : ∀ x ∈ pre [] n, ∀ p ∈ x.2.ps, p.1.bd 3000 ∧ p.2.bd 3000
  goods : ∀ x ∈ pre [] n, x.2.ps.length ≤ 1000
abbrev mkt (g : Int) (n : Nd) : PV := .tup [.int g, n.pv]
theorem kids_len (x : Path × Nd) : (kids x).length = x.2.ks.length := by unfold kids; rw [List.length_map, List.length_zipIdx]
theorem kids_get (x : Path × Nd) {i : Nat} {m : Nd} (h : x.2.ks[i]? = some m) : (kids x)[i]? = some (x.1 ++ [i], m) := by
  unfold kids
  rw [List.getElem?_map, List.getElem?_zipIdx, h]; simp
theorem take_kid (x : Path × Nd) {i : Nat} {m : Nd} (h : x.2.ks[i]? = some m) : (kids x).take (i + 1) = (kids x).take i ++ [(x.1 ++ [i], m)] := by
  have e := kids_get x h
  obtain ⟨hl, e2⟩ := List.getElem?_eq_some_iff.mp e
  rw [List.take_succ_eq_append_getElem hl, e2]
section
variable {S : Store} {n : Nd} {g : Int}
theorem ixk {x : Path × Nd} {i : Nat} {m : Nd} (h : x.2.ks[i]? = some m) : lift2 gIx (.tup (x.2.ks.map Nd.pv)) (.int (i : Int)) S = .ok m.pv S := ixT (by rw [List.getElem?_map, h]; rfl)
theorem pa_snoc (p : Path) (k : Nat) : (p.map fun (k : Nat) => PV.int k) ++ [.int k] = (p ++ [k]).map fun (k : Nat) => PV.int k := by rw [List.map_append]; rfl
theorem kids_le (h : n.Ok) {x : Path × Nd} (hx : x ∈ pre [] n) : x.2.ks.length ≤ 1000 := by
  obtain ⟨q, h1, h2⟩ := pre_find [] n x hx
  have hs : ∀ y ∈ preT x, y ∈ pre [] n := fun y hy => by
    obtain ⟨q', h3, h4⟩ := pre_find x.1 x.2 y hy
    have := find_pre [] n y.2 (q ++ q') (by rw [findN_app, h2]; exact h4)
    rw [List.nil_append] at this h1
    rw [h1] at h3
    rw [← h3] at this
    exact this
  have hlen : (kids x).length ≤ ((kids x).flatMap preT).length := by
    generalize kids x = l
    induction l with
    | nil => exact Nat.zero_le _
    | cons y l ih =>
      rw [List.flatMap_cons, List.length_cons, List.length_append]
      have := pre_pos y
      omega
  have hsub : (preT x).length ≤ (pre [] n).length := by
    have nd : (preT x).Nodup := (pre_asc x.1 x.2).imp fun {a b} h e => by rw [e] at h; exact List.lt_irrefl _ h
    exact nodup_le nd hs
  rw [pre_kids, List.length_cons] at hsub
  have := h.many
  rw [← kids_len]
  omega
where
  nodup_le {α : Type} : ∀ {l m : List α}, l.Nodup → (∀ x ∈ l, x ∈ m) → l.length ≤ m.length := fun {l} => by
    classical
    induction l with
    | nil => intro m _ _; exact Nat.zero_le _
    | cons a l ih =>
      intro m hn hs
      obtain ⟨h1, h2⟩ := List.nodup_cons.mp hn
      obtain ⟨s, t, rfl⟩ := List.append_of_mem (hs a List.mem_cons_self)
      have := ih (m := s ++ t) h2 fun x hx => by
        have hm := hs x (List.mem_cons_of_mem _ hx)
        rcases List.mem_append.mp hm with h | h
        · exact List.mem_append_left _ h
        · rcases List.mem_cons.mp h with h | h
          · subst h; exact absurd hx h1
          · exact List.mem_append_right _ h
      rw [List.length_append] at this
      rw [List.length_cons, List.length_append, List.length_cons]
      omega
theorem nodes_S (h : n.Ok) : Sat (F_nodes_of [mkt g n] S) (fun v S' => S' = S ∧ ∃ l : List (Path × Nd), v = .lst (l.map itm) ∧ l.Perm (pre [] n)) noE := by
  rw [A_nodes_of]; unfold D_nodes_of
  simp -implicitDefEqProofs only [EVc, Nat.reduceSub, Int.reduceLT, Int.reduceLE, Int.reduceEq, Int.reduceSub, Int.reduceAdd, Int.reduceMul, Int.reduceNeg, List.replicate, wipeE, List.replicate_zero, List.getElem?_cons_zero, List.getElem?_cons_succ, List.set_cons_succ, List.set_cons_zero, Option.map_some, if_true, if_false]
  have zz : 2000 ≤ sz := by decide
  refine SatF_while (pre [] n).length (fun N ρ S' => S = S' ∧ ∃ (fd st : List (Path × Nd)) (c0 c3 c4 c5 : Cell), ρ = [c0, .ow (.lst (fd.map itm)), .ow (.lst (st.map itm)), c3, c4, c5] ∧ (fd ++ st.flatMap preT).Perm (pre [] n) ∧ (st.flatMap preT).length = N)
    ⟨rfl, [], [([], n)], _, _, _, _, rfl, by simp, by simp⟩ ?_
  rintro N ρ S' ⟨hS, fd, st, c0, c3, c4, c5, rfl, hp, hN⟩
  subst hS
  simp -implicitDefEqProofs only [EVc, Nat.reduceSub, Int.reduceLT, Int.reduceLE, Int.reduceEq, Int.reduceSub, Int.reduceAdd, Int.reduceMul, Int.reduceNeg, List.replicate, wipeE, List.replicate_zero, List.getElem?_cons_zero, List.getElem?_cons_succ, List.set_cons_succ, List.set_cons_zero, Option.map_some, if_true, if_false, List.length_map]
  rcases List.eq_nil_or_concat st with rfl | ⟨st, x, rfl⟩
  · right
    simp -implicitDefEqProofs only [EVc, Nat.reduceSub, Int.reduceLT, Int.reduceLE, Int.reduceEq, Int.reduceSub, Int.reduceAdd, Int.reduceMul, Int.reduceNeg, List.replicate, wipeE, List.replicate_zero, List.getElem?_cons_zero, List.getElem?_cons_succ, List.set_cons_succ, List.set_cons_zero, Option.map_some, if_true, if_false, List.length_nil, Int.ofNat_zero, Int.natCast_zero]
    exact ⟨fd, rfl, by simpa using hp⟩
  · left
    rw [List.concat_eq_append] at *
    have hpos : (0 : Int) < ((st ++ [x]).length : Nat) := by rw [List.length_append, List.length_singleton]; omega
    simp -implicitDefEqProofs only [EVc, Nat.reduceSub, Int.reduceLT, Int.reduceLE, Int.reduceEq, Int.reduceSub, Int.reduceAdd, Int.reduceMul, Int.reduceNeg, List.replicate, wipeE, List.replicate_zero, List.getElem?_cons_zero, List.getElem?_cons_succ, List.set_cons_succ, List.set_cons_zero, Option.map_some, if_true, if_false, hpos]
    have hxm : x ∈ pre [] n := hp.mem_iff.mp (List.mem_append_right _ (List.mem_flatMap.mpr ⟨x, by simp, by rw [pre_kids]; exact List.mem_cons_self⟩))
    have hlen := hp.length_eq
    rw [List.length_append, hN] at hlen
    have hmany := h.many
    have hst : (st ++ [x]).length ≤ N := by
      rw [← hN]
      generalize st ++ [x] = l
      induction l with
      | nil => exact Nat.zero_le _
      | cons y l ih =>
        rw [List.flatMap_cons, List.length_cons, List.length_append]
        have := pre_pos y
        omega
    rw [List.length_append, List.length_singleton] at hst
    rw [List.map_append, List.map_cons, List.map_nil, popC_snoc]
    simp -implicitDefEqProofs only [EVc, Nat.reduceSub, Int.reduceLT, Int.reduceLE, Int.reduceEq, Int.reduceSub, Int.reduceAdd, Int.reduceMul, Int.reduceNeg, List.replicate, wipeE, List.replicate_zero, List.getElem?_cons_zero, List.getElem?_cons_succ, List.set_cons_succ, List.set_cons_zero, Option.map_some, if_true, if_false]
    rw [push_ok (by rw [List.length_map]; omega)]
    simp -implicitDefEqProofs only [EVc, Nat.reduceSub, Int.reduceLT, Int.reduceLE, Int.reduceEq, Int.reduceSub, Int.reduceAdd, Int.reduceMul, Int.reduceNeg, List.replicate, wipeE, List.replicate_zero, List.getElem?_cons_zero, List.getElem?_cons_succ, List.set_cons_succ, List.set_cons_zero, Option.map_some, if_true, if_false]
    rw [Nd.pv_eq]
    have hk := kids_le h hxm
    simp -implicitDefEqProofs only [EVc, Nat.reduceSub, Int.reduceLT, Int.reduceLE, Int.reduceEq, Int.reduceSub, Int.reduceAdd, Int.reduceMul, Int.reduceNeg, List.replicate, wipeE, List.replicate_zero, List.getElem?_cons_zero, List.getElem?_cons_succ, List.set_cons_succ, List.set_cons_zero, Option.map_some, if_true, if_false, List.length_map]
    rw [rng1F_n (by omega)]
    simp -implicitDefEqProofs only [EVc, Nat.reduceSub, Int.reduceLT, Int.reduceLE, Int.reduceEq, Int.reduceSub, Int.reduceAdd, Int.reduceMul, Int.reduceNeg, List.replicate, wipeE, List.replicate_zero, List.getElem?_cons_zero, List.getElem?_cons_succ, List.set_cons_succ, List.set_cons_zero, Option.map_some, if_true, if_false]
    have hd := h.deep x hxm
    refine SatF_for (fun (j : Nat) => PV.int j) (fun dn l ρ S' => S = S' ∧ ∃ i c3, i ≤ x.2.ks.length ∧ l = List.range' i (x.2.ks.length - i) ∧ ρ = [c0, .ow (.lst (fd.map itm ++ [.tup [pav x.1, .tup [.tup (x.2.ps.map ppv), .tup (x.2.ks.map Nd.pv)]]])), .ow (.lst ((st ++ (kids x).take i).map itm)), c3, .fz (pav x.1), .fz (.tup [.tup (x.2.ps.map ppv), .tup (x.2.ks.map Nd.pv)])]) _ [] _ _
      ⟨rfl, 0, c3, by omega, by rw [List.range_eq_range', Nat.sub_zero], by simp⟩ ?_ ?_
    · rintro dn j l ρ S' ⟨hS, i, c3, hi, hl, rfl⟩
      subst hS
      have hi' : i < x.2.ks.length := by
        rcases Nat.lt_or_ge i x.2.ks.length with q | q
        · exact q
        · rw [show x.2.ks.length - i = 0 by omega] at hl; cases hl
      rw [show x.2.ks.length - i = (x.2.ks.length - (i + 1)) + 1 by omega, List.range'_succ] at hl
      obtain ⟨rfl, rfl⟩ := List.cons.inj hl
      refine ⟨_, rfl, ?_⟩
      have em : x.2.ks[j]? = some x.2.ks[j] := List.getElem?_eq_getElem hi'
      simp -implicitDefEqProofs only [EVc, Nat.reduceSub, Int.reduceLT, Int.reduceLE, Int.reduceEq, Int.reduceSub, Int.reduceAdd, Int.reduceMul, Int.reduceNeg, List.replicate, wipeE, List.replicate_zero, List.getElem?_cons_zero, List.getElem?_cons_succ, List.set_cons_succ, List.set_cons_zero, Option.map_some, if_true, if_false]
      rw [l2_addTs (by rw [List.length_map, List.length_singleton]; omega)]
      simp -implicitDefEqProofs only [EVc, Nat.reduceSub, Int.reduceLT, Int.reduceLE, Int.reduceEq, Int.reduceSub, Int.reduceAdd, Int.reduceMul, Int.reduceNeg, List.replicate, wipeE, List.replicate_zero, List.getElem?_cons_zero, List.getElem?_cons_succ, List.set_cons_succ, List.set_cons_zero, Option.map_some, if_true, if_false]
      rw [ixk em]
      simp -implicitDefEqProofs only [EVc, Nat.reduceSub, Int.reduceLT, Int.reduceLE, Int.reduceEq, Int.reduceSub, Int.reduceAdd, Int.reduceMul, Int.reduceNeg, List.replicate, wipeE, List.replicate_zero, List.getElem?_cons_zero, List.getElem?_cons_succ, List.set_cons_succ, List.set_cons_zero, Option.map_some, if_true, if_false]
      rw [push_ok (by
        rw [List.length_map, List.length_append, List.length_take, kids_len]; omega)]
      simp -implicitDefEqProofs only [EVc, Nat.reduceSub, Int.reduceLT, Int.reduceLE, Int.reduceEq, Int.reduceSub, Int.reduceAdd, Int.reduceMul, Int.reduceNeg, List.replicate, wipeE, List.replicate_zero, List.getElem?_cons_zero, List.getElem?_cons_succ, List.set_cons_succ, List.set_cons_zero, Option.map_some, if_true, if_false]
      refine ⟨j + 1, .fz (.int (j : Int)), by omega, rfl, ?_⟩
      rw [take_kid x em, ← List.append_assoc, List.map_append (l₂ := [_]), pa_snoc]
      rfl
    · intro dn ρ S' hI
      obtain ⟨hS, i, c3, hi, hl, hρ⟩ := hI
      subst hS; subst hρ
      have hi' : i = x.2.ks.length := by
        rcases Nat.lt_or_ge i x.2.ks.length with q | q
        · rw [show x.2.ks.length - i = (x.2.ks.length - (i + 1)) + 1 by omega, List.range'_succ] at hl; cases hl
        · omega
      subst hi'
      simp -implicitDefEqProofs only [EVc, Nat.reduceSub, Int.reduceLT, Int.reduceLE, Int.reduceEq, Int.reduceSub, Int.reduceAdd, Int.reduceMul, Int.reduceNeg, List.replicate, wipeE, List.replicate_zero, List.getElem?_cons_zero, List.getElem?_cons_succ, List.set_cons_succ, List.set_cons_zero, Option.map_some, if_true, if_false]
      rw [show x.2.ks.length = (kids x).length from (kids_len x).symm, List.take_length]
      have ef : (st ++ [x]).flatMap preT = st.flatMap preT ++ (x :: (kids x).flatMap preT) := by
        rw [List.flatMap_append, List.flatMap_cons, List.flatMap_nil, List.append_nil, pre_kids]
      rw [ef] at hp hN
      refine ⟨((st ++ kids x).flatMap preT).length, ?_, fd ++ [x], st ++ kids x, c0, c3, .fz (pav x.1), .fz (.tup [.tup (x.2.ps.map ppv), .tup (x.2.ks.map Nd.pv)]), ?_, ?_, rfl⟩
      · rw [List.flatMap_append, List.length_append, ← hN, List.length_append, List.length_cons]; omega
      · rw [List.map_append (l₁ := fd), List.map_cons, List.map_nil]
        show _ = [_, Cell.ow (.lst (fd.map itm ++ [.tup [pav x.1, x.2.pv]])), _, _, _, _]
        rw [Nd.pv_eq x.2]
      · refine List.Perm.trans ?_ hp
        rw [List.flatMap_append, List.append_assoc]
        refine List.Perm.append_left _ ?_
        rw [List.singleton_append]
        exact List.perm_middle.symm
/-! ### promises -/
abbrev isEnd (x : Path × Nd) : Bool := decide (x.2.ks.length = 0)
def NodesOk (f : PF) : Prop := ∀ (n : Nd) (g : Int) S, n.Ok → Sat (f [mkt g n] S) (fun v S' => S' = S ∧ ∃ l : List (Path × Nd), v = .lst (l.map itm) ∧ l.Perm (pre [] n)) noE
theorem nodes_F : NodesOk F_nodes_of := fun n g S h => nodes_S h
def PathsOk (f : PF) : Prop := ∀ (n : Nd) (g : Int) S, n.Ok → f [mkt g n] S = .ok (.lst ((pre [] n).map fun x => pav x.1)) S
def EndsOk (f : PF) : Prop := ∀ (n : Nd) (g : Int) S, n.Ok → f [mkt g n] S = .ok (.lst (((pre [] n).filter isEnd).map fun x => pav x.1)) S
theorem lenEnd (x : Path × Nd) : (decide (((x.2.ks.length : Nat) : Int) = 0)) = isEnd x := decide_eq_decide.mpr (by omega)
theorem paths_F {f : PF} (hf : NodesOk f) : PathsOk (F_path_list f) := fun n g S h => by
  refine Sat.eq ?_
  rw [A_path_list]; unfold D_path_list
  simp -implicitDefEqProofs only [EVc, Nat.reduceSub, Int.reduceLT, Int.reduceLE, Int.reduceEq, Int.reduceSub, Int.reduceAdd, Int.reduceMul, Int.reduceNeg, List.replicate, wipeE, List.replicate_zero, List.getElem?_cons_zero, List.getElem?_cons_succ, List.set_cons_succ, List.set_cons_zero, Option.map_some, if_true, if_false]
  refine (hf n g S h).to ?_
  rintro v S' ⟨rfl, l, rfl, hp⟩
  simp -implicitDefEqProofs only [EVc, Nat.reduceSub, Int.reduceLT, Int.reduceLE, Int.reduceEq, Int.reduceSub, Int.reduceAdd, Int.reduceMul, Int.reduceNeg, List.replicate, wipeE, List.replicate_zero, List.getElem?_cons_zero, List.getElem?_cons_succ, List.set_cons_succ, List.set_cons_zero, Option.map_some, if_true, if_false]
  rw [comp_map itm (fun x => pav x.1) l (fun x _ => ⟨_, rfl, by simp -implicitDefEqProofs only [EVc, Nat.reduceSub, Int.reduceLT, Int.reduceLE, Int.reduceEq, Int.reduceSub, Int.reduceAdd, Int.reduceMul, Int.reduceNeg, List.replicate, wipeE, List.replicate_zero, List.getElem?_cons_zero, List.getElem?_cons_succ, List.set_cons_succ, List.set_cons_zero, Option.map_some, if_true, if_false]⟩)]
  simp -implicitDefEqProofs only [EVc, Nat.reduceSub, Int.reduceLT, Int.reduceLE, Int.reduceEq, Int.reduceSub, Int.reduceAdd, Int.reduceMul, Int.reduceNeg, List.replicate, wipeE, List.replicate_zero, List.getElem?_cons_zero, List.getElem?_cons_succ, List.set_cons_succ, List.set_cons_zero, Option.map_some, if_true, if_false]
  have := sort_pa (S := S') (pre_fst_asc n) (hp.map (·.1))
  rw [List.map_map, List.map_map] at this
  have e : l.map (fun x => pav x.1) = l.map (pav ∘ (·.1)) := rfl
  rw [e, this]
  (try first | trivial | exact ⟨rfl, rfl⟩ | exact ⟨rfl, trivial⟩ | rfl)
theorem ends_F {f : PF} (hf : NodesOk f) : EndsOk (F_end_list f) := fun n g S h => by
  refine Sat.eq ?_
  rw [A_end_list]; unfold D_end_list
  simp -implicitDefEqProofs only [EVc, Nat.reduceSub, Int.reduceLT, Int.reduceLE, Int.reduceEq, Int.reduceSub, Int.reduceAdd, Int.reduceMul, Int.reduceNeg, List.replicate, wipeE, List.replicate_zero, List.getElem?_cons_zero, List.getElem?_cons_succ, List.set_cons_succ, List.set_cons_zero, Option.map_some, if_true, if_false]
  refine (hf n g S h).to ?_
  rintro v S' ⟨rfl, l, rfl, hp⟩
  simp -implicitDefEqProofs only [EVc, Nat.reduceSub, Int.reduceLT, Int.reduceLE, Int.reduceEq, Int.reduceSub, Int.reduceAdd, Int.reduceMul, Int.reduceNeg, List.replicate, wipeE, List.replicate_zero, List.getElem?_cons_zero, List.getElem?_cons_succ, List.set_cons_succ, List.set_cons_zero, Option.map_some, if_true, if_false]
  rw [comp_filter itm (fun x => pav x.1) isEnd l (fun x _ => ⟨_, rfl, by simp -implicitDefEqProofs only [EVc, Nat.reduceSub, Int.reduceLT, Int.reduceLE, Int.reduceEq, Int.reduceSub, Int.reduceAdd, Int.reduceMul, Int.reduceNeg, List.replicate, wipeE, List.replicate_zero, List.getElem?_cons_zero, List.getElem?_cons_succ, List.set_cons_succ, List.set_cons_zero, Option.map_some, if_true, if_false, Nd.pv_eq, List.length_map, lenEnd], fun _ => by simp -implicitDefEqProofs only [EVc, Nat.reduceSub, Int.reduceLT, Int.reduceLE, Int.reduceEq, Int.reduceSub, Int.reduceAdd, Int.reduceMul, Int.reduceNeg, List.replicate, wipeE, List.replicate_zero, List.getElem?_cons_zero, List.getElem?_cons_succ, List.set_cons_succ, List.set_cons_zero, Option.map_some, if_true, if_false]⟩)]
  simp -implicitDefEqProofs only [EVc, Nat.reduceSub, Int.reduceLT, Int.reduceLE, Int.reduceEq, Int.reduceSub, Int.reduceAdd, Int.reduceMul, Int.reduceNeg, List.replicate, wipeE, List.replicate_zero, List.getElem?_cons_zero, List.getElem?_cons_succ, List.set_cons_succ, List.set_cons_zero, Option.map_some, if_true, if_false]
  have asc : (((pre [] n).filter isEnd).map (·.1)).Pairwise (· < ·) := List.pairwise_map.mpr ((pre_asc [] n).filter _)
  have := sort_pa (S := S') asc ((hp.filter isEnd).map (·.1))
  rw [List.map_map, List.map_map] at this
  have e : (l.filter isEnd).map (fun x => pav x.1) = (l.filter isEnd).map (pav ∘ (·.1)) := rfl
  rw [e, this]
  (try first | trivial | exact ⟨rfl, rfl⟩ | exact ⟨rfl, trivial⟩ | rfl)
/-! ### the node of a path -/
abbrev pai (p : List Int) : PV := .tup (p.map PV.int)
def findI : Nd → List Int → Option Nd
  | n, [] => some n
  | n, k :: p => if k < 0 ∨ (n.ks.length : Int) ≤ k then none else match n.ks[k.toNat]? with
    | some m => findI m p
    | none => none
theorem findI_nat : ∀ (p : Path) (n : Nd), findI n (p.map fun (k : Nat) => (k : Int)) = findN n p
  | [], n => rfl
  | k :: p, n => by
    show (if (k : Int) < 0 ∨ (n.ks.length : Int) ≤ k then none else match n.ks[(k : Int).toNat]? with | some m => findI m (p.map fun (k : Nat) => (k : Int)) | none => none) = match n.ks[k]? with | some m => findN m p | none => none
    rw [Int.toNat_natCast]
    by_cases h : k < n.ks.length
    · rw [if_neg (by omega), List.getElem?_eq_getElem h]
      exact findI_nat p _
    · rw [if_pos (by omega), List.getElem?_eq_none (by omega)]
theorem pai_nat (p : Path) : pai (p.map fun (k : Nat) => (k : Int)) = pav p := by
  show PV.tup ((p.map fun (k : Nat) => (k : Int)).map PV.int) = _
  rw [List.map_map]; rfl
def NodeAtOk (f : PF) : Prop := ∀ (n : Nd) (g : Int) (p : List Int) S, f [mkt g n, pai p] S = match findI n p with | some m => .ok m.pv S | none => .exc .moment S
def FindOk (f : PF) : Prop := ∀ (n : Nd) (g : Int) (p : List Int) S, f [mkt g n, pai p] S = match findI n p with | some m => .ok m.pv S | none => .ok .non S
theorem NodeAtOk.at {f : PF} (h : NodeAtOk f) {n m : Nd} {g : Int} {p : Path} {S : Store} (e : findN n p = some m) : f [mkt g n, pav p] S = .ok m.pv S := by
  have := h n g (p.map fun (k : Nat) => (k : Int)) S
  rw [pai_nat, findI_nat, e] at this
  exact this
theorem FindOk.at {f : PF} (h : FindOk f) {n m : Nd} {g : Int} {p : Path} {S : Store} (e : findN n p = some m) : f [mkt g n, pav p] S = .ok m.pv S := by
  have := h n g (p.map fun (k : Nat) => (k : Int)) S
  rw [pai_nat, findI_nat, e] at this
  exact this
theorem nodeAt_F : NodeAtOk F_node_at := fun n g p S => by
  suffices h : Sat (F_node_at [mkt g n, pai p] S) (fun v S' => S = S' ∧ ∃ m, findI n p = some m ∧ v = m.pv) (fun e S' => e = .moment ∧ S = S' ∧ findI n p = none) by
    cases e : F_node_at [mkt g n, pai p] S with
    | ok v S' =>
      rw [e] at h
      obtain ⟨rfl, m, h1, rfl⟩ := h
      rw [h1]
    | exc er S' =>
      rw [e] at h
      obtain ⟨rfl, rfl, h1⟩ := h
      rw [h1]
    | bad => rw [e] at h; exact h.elim
  rw [A_node_at]; unfold D_node_at
  simp -implicitDefEqProofs only [EVc, Nat.reduceSub, Int.reduceLT, Int.reduceLE, Int.reduceEq, Int.reduceSub, Int.reduceAdd, Int.reduceMul, Int.reduceNeg, List.replicate, wipeE, List.replicate_zero, List.getElem?_cons_zero, List.getElem?_cons_succ, List.set_cons_succ, List.set_cons_zero, Option.map_some, if_true, if_false]
  refine SatF_for PV.int (fun dn l ρ S' => S = S' ∧ ∃ m c3, ρ = [.fz (mkt g n), .fz (pai p), .fz m.pv, c3] ∧ findI m l = findI n p) p [] _ _ ⟨rfl, n, .un, rfl, rfl⟩ ?_ ?_
  · rintro dn k l ρ S' ⟨rfl, m, c3, rfl, hf⟩
    refine ⟨_, rfl, ?_⟩
    rw [Nd.pv_eq m]
    simp -implicitDefEqProofs only [EVc, Nat.reduceSub, Int.reduceLT, Int.reduceLE, Int.reduceEq, Int.reduceSub, Int.reduceAdd, Int.reduceMul, Int.reduceNeg, List.replicate, wipeE, List.replicate_zero, List.getElem?_cons_zero, List.getElem?_cons_succ, List.set_cons_succ, List.set_cons_zero, Option.map_some, if_true, if_false, List.length_map]
    have ef : findI m (k :: l) = if k < 0 ∨ (m.ks.length : Int) ≤ k then none else match m.ks[k.toNat]? with | some m => findI m l | none => none := rfl
    rw [ef] at hf
    by_cases h1 : k < 0
    · simp only [h1, EVc, Nat.reduceSub, Int.reduceLT, Int.reduceLE, Int.reduceEq, Int.reduceSub, Int.reduceAdd, Int.reduceMul, Int.reduceNeg, List.replicate, wipeE, List.replicate_zero, List.getElem?_cons_zero, List.getElem?_cons_succ, List.set_cons_succ, List.set_cons_zero, Option.map_some, if_true, if_false]
      rw [if_pos (.inl h1)] at hf
      exact hf.symm
    · by_cases h2 : (m.ks.length : Int) ≤ k
      · simp only [h1, h2, EVc, Nat.reduceSub, Int.reduceLT, Int.reduceLE, Int.reduceEq, Int.reduceSub, Int.reduceAdd, Int.reduceMul, Int.reduceNeg, List.replicate, wipeE, List.replicate_zero, List.getElem?_cons_zero, List.getElem?_cons_succ, List.set_cons_succ, List.set_cons_zero, Option.map_some, if_true, if_false]
        rw [if_pos (.inr h2)] at hf
        exact hf.symm
      · simp only [h1, h2, EVc, Nat.reduceSub, Int.reduceLT, Int.reduceLE, Int.reduceEq, Int.reduceSub, Int.reduceAdd, Int.reduceMul, Int.reduceNeg, List.replicate, wipeE, List.replicate_zero, List.getElem?_cons_zero, List.getElem?_cons_succ, List.set_cons_succ, List.set_cons_zero, Option.map_some, if_true, if_false]
        rw [if_neg (by omega)] at hf
        have hl : k.toNat < m.ks.length := by omega
        rw [List.getElem?_eq_getElem hl] at hf
        rw [ixTi (by omega) (show (m.ks.map Nd.pv)[k.toNat]? = some (m.ks[k.toNat]).pv by rw [List.getElem?_map, List.getElem?_eq_getElem hl]; rfl)]
        simp -implicitDefEqProofs only [EVc, Nat.reduceSub, Int.reduceLT, Int.reduceLE, Int.reduceEq, Int.reduceSub, Int.reduceAdd, Int.reduceMul, Int.reduceNeg, List.replicate, wipeE, List.replicate_zero, List.getElem?_cons_zero, List.getElem?_cons_succ, List.set_cons_succ, List.set_cons_zero, Option.map_some, if_true, if_false]
        exact ⟨_, _, rfl, hf⟩
  · intro dn ρ S' hI
    obtain ⟨hS, m, c3, hρ, hf⟩ := hI
    subst hS; subst hρ
    simp -implicitDefEqProofs only [EVc, Nat.reduceSub, Int.reduceLT, Int.reduceLE, Int.reduceEq, Int.reduceSub, Int.reduceAdd, Int.reduceMul, Int.reduceNeg, List.replicate, wipeE, List.replicate_zero, List.getElem?_cons_zero, List.getElem?_cons_succ, List.set_cons_succ, List.set_cons_zero, Option.map_some, if_true, if_false]
    exact ⟨m, hf.symm, rfl⟩
theorem find_F : FindOk F_law_find := fun n g p S => by
  suffices h : Sat (F_law_find [mkt g n, pai p] S) (fun v S' => S = S' ∧ ((∃ m, findI n p = some m ∧ v = m.pv) ∨ (findI n p = none ∧ v = .non))) noE by
    obtain ⟨v, S', e, hS, h⟩ := h.ex
    subst hS
    rw [e]
    rcases h with ⟨m, h1, rfl⟩ | ⟨h1, rfl⟩ <;> rw [h1]
  rw [A_law_find]; unfold D_law_find
  simp -implicitDefEqProofs only [EVc, Nat.reduceSub, Int.reduceLT, Int.reduceLE, Int.reduceEq, Int.reduceSub, Int.reduceAdd, Int.reduceMul, Int.reduceNeg, List.replicate, wipeE, List.replicate_zero, List.getElem?_cons_zero, List.getElem?_cons_succ, List.set_cons_succ, List.set_cons_zero, Option.map_some, if_true, if_false]
  refine SatF_for PV.int (fun dn l ρ S' => S = S' ∧ ∃ m c3, ρ = [.fz (mkt g n), .fz (pai p), .fz m.pv, c3] ∧ findI m l = findI n p) p [] _ _ ⟨rfl, n, .un, rfl, rfl⟩ ?_ ?_
  · rintro dn k l ρ S' ⟨rfl, m, c3, rfl, hf⟩
    refine ⟨_, rfl, ?_⟩
    rw [Nd.pv_eq m]
    simp -implicitDefEqProofs only [EVc, Nat.reduceSub, Int.reduceLT, Int.reduceLE, Int.reduceEq, Int.reduceSub, Int.reduceAdd, Int.reduceMul, Int.reduceNeg, List.replicate, wipeE, List.replicate_zero, List.getElem?_cons_zero, List.getElem?_cons_succ, List.set_cons_succ, List.set_cons_zero, Option.map_some, if_true, if_false, List.length_map]
    have ef : findI m (k :: l) = if k < 0 ∨ (m.ks.length : Int) ≤ k then none else match m.ks[k.toNat]? with | some m => findI m l | none => none := rfl
    rw [ef] at hf
    by_cases h1 : k < 0
    · simp only [h1, EVc, Nat.reduceSub, Int.reduceLT, Int.reduceLE, Int.reduceEq, Int.reduceSub, Int.reduceAdd, Int.reduceMul, Int.reduceNeg, List.replicate, wipeE, List.replicate_zero, List.getElem?_cons_zero, List.getElem?_cons_succ, List.set_cons_succ, List.set_cons_zero, Option.map_some, if_true, if_false]
      rw [if_pos (.inl h1)] at hf
      exact .inr hf.symm
    · by_cases h2 : (m.ks.length : Int) ≤ k
      · simp only [h1, h2, EVc, Nat.reduceSub, Int.reduceLT, Int.reduceLE, Int.reduceEq, Int.reduceSub, Int.reduceAdd, Int.reduceMul, Int.reduceNeg, List.replicate, wipeE, List.replicate_zero, List.getElem?_cons_zero, List.getElem?_cons_succ, List.set_cons_succ, List.set_cons_zero, Option.map_some, if_true, if_false]
        rw [if_pos (.inr h2)] at hf
        exact .inr hf.symm
      · simp only [h1, h2, EVc, Nat.reduceSub, Int.reduceLT, Int.reduceLE, Int.reduceEq, Int.reduceSub, Int.reduceAdd, Int.reduceMul, Int.reduceNeg, List.replicate, wipeE, List.replicate_zero, List.getElem?_cons_zero, List.getElem?_cons_succ, List.set_cons_succ, List.set_cons_zero, Option.map_some, if_true, if_false]
        rw [if_neg (by omega)] at hf
        have hl : k.toNat < m.ks.length := by omega
        rw [List.getElem?_eq_getElem hl] at hf
        rw [ixTi (by omega) (show (m.ks.map Nd.pv)[k.toNat]? = some (m.ks[k.toNat]).pv by rw [List.getElem?_map, List.getElem?_eq_getElem hl]; rfl)]
        simp -implicitDefEqProofs only [EVc, Nat.reduceSub, Int.reduceLT, Int.reduceLE, Int.reduceEq, Int.reduceSub, Int.reduceAdd, Int.reduceMul, Int.reduceNeg, List.replicate, wipeE, List.replicate_zero, List.getElem?_cons_zero, List.getElem?_cons_succ, List.set_cons_succ, List.set_cons_zero, Option.map_some, if_true, if_false]
        exact ⟨_, _, rfl, hf⟩
  · intro dn ρ S' hI
    obtain ⟨hS, m, c3, hρ, hf⟩ := hI
    subst hS; subst hρ
    simp -implicitDefEqProofs only [EVc, Nat.reduceSub, Int.reduceLT, Int.reduceLE, Int.reduceEq, Int.reduceSub, Int.reduceAdd, Int.reduceMul, Int.reduceNeg, List.replicate, wipeE, List.replicate_zero, List.getElem?_cons_zero, List.getElem?_cons_succ, List.set_cons_succ, List.set_cons_zero, Option.map_some, if_true, if_false]
    exact .inl ⟨m, hf.symm, rfl⟩
/-! ### prices -/
def Nd.prices (m : Nd) : List PP := (Fr.one, Fr.one) :: m.ps
def PricesOk (f : PF) : Prop := ∀ (n : Nd) (g : Int) (p : List Int) S, n.Ok → f [mkt g n, pai p] S = match findI n p with | some m => .ok (.tup (m.prices.map ppv)) S | none => .exc .moment S
theorem findI_pre {n : Nd} : ∀ {p : List Int} {m : Nd}, findI n p = some m → ∃ q : Path, p = q.map (fun (k : Nat) => (k : Int)) ∧ findN n q = some m
  | [], m, h => ⟨[], rfl, h⟩
  | k :: p, m, h => by
    have h : (if k < 0 ∨ (n.ks.length : Int) ≤ k then none else match n.ks[k.toNat]? with | some m => findI m p | none => none) = some m := h
    by_cases hk : k < 0 ∨ (n.ks.length : Int) ≤ k
    · rw [if_pos hk] at h; cases h
    · rw [if_neg hk] at h
      cases e : n.ks[k.toNat]? with
      | none => rw [e] at h; cases h
      | some m' =>
        rw [e] at h
        obtain ⟨q, h1, h2⟩ := findI_pre (n := m') h
        refine ⟨k.toNat :: q, ?_, ?_⟩
        · rw [List.map_cons, ← h1]; congr 1; omega
        · show (match n.ks[k.toNat]? with | some m => findN m q | none => none) = _
          rw [e]; exact h2
theorem mem_pre {n m : Nd} {q : Path} (h : findN n q = some m) : (q, m) ∈ pre [] n := by have := find_pre [] n m q h; rwa [List.nil_append] at this
theorem prices_F {f : PF} (hf : NodeAtOk f) : PricesOk (F_prices_of f) := fun n g p S h => by
  rw [A_prices_of]; unfold D_prices_of
  simp -implicitDefEqProofs only [EVc, Nat.reduceSub, Int.reduceLT, Int.reduceLE, Int.reduceEq, Int.reduceSub, Int.reduceAdd, Int.reduceMul, Int.reduceNeg, List.replicate, wipeE, List.replicate_zero, List.getElem?_cons_zero, List.getElem?_cons_succ, List.set_cons_succ, List.set_cons_zero, Option.map_some, if_true, if_false]
  rw [hf]
  cases e : findI n p with
  | none => simp -implicitDefEqProofs only [EVc, Nat.reduceSub, Int.reduceLT, Int.reduceLE, Int.reduceEq, Int.reduceSub, Int.reduceAdd, Int.reduceMul, Int.reduceNeg, List.replicate, wipeE, List.replicate_zero, List.getElem?_cons_zero, List.getElem?_cons_succ, List.set_cons_succ, List.set_cons_zero, Option.map_some, if_true, if_false]
  | some m =>
    obtain ⟨q, _, hq⟩ := findI_pre e
    have hl : m.ps.length ≤ 1000 := h.goods _ (mem_pre hq)
    have zz : 2000 ≤ sz := by decide
    simp only []
    rw [Nd.pv_eq]
    simp -implicitDefEqProofs only [EVc, Nat.reduceSub, Int.reduceLT, Int.reduceLE, Int.reduceEq, Int.reduceSub, Int.reduceAdd, Int.reduceMul, Int.reduceNeg, List.replicate, wipeE, List.replicate_zero, List.getElem?_cons_zero, List.getElem?_cons_succ, List.set_cons_succ, List.set_cons_zero, Option.map_some, if_true, if_false]
    rw [l2_addTs (by rw [List.length_singleton, List.length_map]; omega)]
    simp -implicitDefEqProofs only [EVc, Nat.reduceSub, Int.reduceLT, Int.reduceLE, Int.reduceEq, Int.reduceSub, Int.reduceAdd, Int.reduceMul, Int.reduceNeg, List.replicate, wipeE, List.replicate_zero, List.getElem?_cons_zero, List.getElem?_cons_succ, List.set_cons_succ, List.set_cons_zero, Option.map_some, if_true, if_false]
    rfl
def LPricesOk (f : PF) : Prop := ∀ (n m : Nd) (g : Int) (p : Path) S, n.Ok → findN n p = some m → f [mkt g n, pav p] S = .ok (.tup (m.prices.map ppv)) S
theorem lprices_F {f : PF} (hf : FindOk f) : LPricesOk (F_law_prices f) := fun n m g p S h e => by
  rw [A_law_prices]; unfold D_law_prices
  simp -implicitDefEqProofs only [EVc, Nat.reduceSub, Int.reduceLT, Int.reduceLE, Int.reduceEq, Int.reduceSub, Int.reduceAdd, Int.reduceMul, Int.reduceNeg, List.replicate, wipeE, List.replicate_zero, List.getElem?_cons_zero, List.getElem?_cons_succ, List.set_cons_succ, List.set_cons_zero, Option.map_some, if_true, if_false]
  rw [hf.at e]
  have hl : m.ps.length ≤ 1000 := h.goods _ (mem_pre e)
  have zz : 2000 ≤ sz := by decide
  rw [Nd.pv_eq]
  simp -implicitDefEqProofs only [EVc, Nat.reduceSub, Int.reduceLT, Int.reduceLE, Int.reduceEq, Int.reduceSub, Int.reduceAdd, Int.reduceMul, Int.reduceNeg, List.replicate, wipeE, List.replicate_zero, List.getElem?_cons_zero, List.getElem?_cons_succ, List.set_cons_succ, List.set_cons_zero, Option.map_some, if_true, if_false]
  rw [l2_addTs (by rw [List.length_singleton, List.length_map]; omega)]
  simp -implicitDefEqProofs only [EVc, Nat.reduceSub, Int.reduceLT, Int.reduceLE, Int.reduceEq, Int.reduceSub, Int.reduceAdd, Int.reduceMul, Int.reduceNeg, List.replicate, wipeE, List.replicate_zero, List.getElem?_cons_zero, List.getElem?_cons_succ, List.set_cons_succ, List.set_cons_zero, Option.map_some, if_true, if_false]
  rfl
end
end Py
/-! Markets: the checks, all moments by the law's own walk. -/
namespace Py
open L2

/-! ### right prices -/
def rightP (g : Int) (ps : List PP) : Bool := decide ((ps.length : Int) = g - 1) && ps.all fun p => decide (0 ≤ p.2.n) && decide (p.2.cmp p.1 ≤ 0)
abbrev bdP (k : Nat) (p : PP) : Prop := p.1.bd k ∧ p.2.bd k
def RightOk (f : PF) : Prop := ∀ (g : Int) (ps : List PP) S, (∀ p ∈ ps, bdP 3000 p) → f [.int g, .tup (ps.map ppv)] S = .ok (.bl (rightP g ps)) S
theorem bools_map {α : Type} (f : α → Bool) : ∀ l : List α, bools? (l.map fun x => PV.bl (f x)) = some (l.map f)
  | [] => rfl
  | x :: l => by
    rw [List.map_cons]
    unfold bools?
    rw [bools_map f l]; rfl
theorem l1_all {α : Type} {S : Store} (f : α → Bool) (l : List α) : lift1 gAll (.lst (l.map fun x => PV.bl (f x))) S = .ok (.bl (l.all f)) S := by
  show (match (bools? (l.map fun x => PV.bl (f x))).map (fun bs => PV.bl (bs.all id)) with | some z => Res.ok z S | none => .bad) = _
  rw [bools_map f l]
  show Res.ok (PV.bl ((l.map f).all id)) S = _
  rw [List.all_map]; rfl
theorem l1_any {α : Type} {S : Store} (f : α → Bool) (l : List α) : lift1 gAny (.lst (l.map fun x => PV.bl (f x))) S = .ok (.bl (l.any f)) S := by
  show (match (bools? (l.map fun x => PV.bl (f x))).map (fun bs => PV.bl (bs.any id)) with | some z => Res.ok z S | none => .bad) = _
  rw [bools_map f l]
  show Res.ok (PV.bl ((l.map f).any id)) S = _
  rw [List.any_map]; rfl
theorem right_F {f : PF} (hf : FCmp f) : RightOk (F_right_prices f) := fun g ps S h => by
  refine Sat.eq ?_
  rw [A_right_prices]; unfold D_right_prices
  simp -implicitDefEqProofs only [EVc, Nat.reduceSub, Int.reduceLT, Int.reduceLE, Int.reduceEq, Int.reduceSub, Int.reduceAdd, Int.reduceMul, Int.reduceNeg, List.replicate, wipeE, List.replicate_zero, List.getElem?_cons_zero, List.getElem?_cons_succ, List.set_cons_succ, List.set_cons_zero, Option.map_some, if_true, if_false, List.length_map]
  unfold rightP
  by_cases h1 : (ps.length : Int) = g - 1
  · simp -implicitDefEqProofs only [EVc, Nat.reduceSub, Int.reduceLT, Int.reduceLE, Int.reduceEq, Int.reduceSub, Int.reduceAdd, Int.reduceMul, Int.reduceNeg, List.replicate, wipeE, List.replicate_zero, List.getElem?_cons_zero, List.getElem?_cons_succ, List.set_cons_succ, List.set_cons_zero, Option.map_some, if_true, if_false, h1]
    rw [comp_map ppv (fun p => PV.bl (decide (0 ≤ p.2.n) && decide (p.2.cmp p.1 ≤ 0))) ps (fun p hp => ⟨_, rfl, ?_⟩)]
    · simp -implicitDefEqProofs only [EVc, Nat.reduceSub, Int.reduceLT, Int.reduceLE, Int.reduceEq, Int.reduceSub, Int.reduceAdd, Int.reduceMul, Int.reduceNeg, List.replicate, wipeE, List.replicate_zero, List.getElem?_cons_zero, List.getElem?_cons_succ, List.set_cons_succ, List.set_cons_zero, Option.map_some, if_true, if_false]
      rw [l1_all]
      (try first | trivial | exact ⟨rfl, rfl⟩ | exact ⟨rfl, trivial⟩ | rfl)
    · simp -implicitDefEqProofs only [EVc, Nat.reduceSub, Int.reduceLT, Int.reduceLE, Int.reduceEq, Int.reduceSub, Int.reduceAdd, Int.reduceMul, Int.reduceNeg, List.replicate, wipeE, List.replicate_zero, List.getElem?_cons_zero, List.getElem?_cons_succ, List.set_cons_succ, List.set_cons_zero, Option.map_some, if_true, if_false, ixT0]
      by_cases h2 : 0 ≤ p.2.n
      · simp -implicitDefEqProofs only [EVc, Nat.reduceSub, Int.reduceLT, Int.reduceLE, Int.reduceEq, Int.reduceSub, Int.reduceAdd, Int.reduceMul, Int.reduceNeg, List.replicate, wipeE, List.replicate_zero, List.getElem?_cons_zero, List.getElem?_cons_succ, List.set_cons_succ, List.set_cons_zero, Option.map_some, if_true, if_false, h2]
        rw [hf _ _ _ (h p hp).2 (h p hp).1]
        simp -implicitDefEqProofs only [EVc, Nat.reduceSub, Int.reduceLT, Int.reduceLE, Int.reduceEq, Int.reduceSub, Int.reduceAdd, Int.reduceMul, Int.reduceNeg, List.replicate, wipeE, List.replicate_zero, List.getElem?_cons_zero, List.getElem?_cons_succ, List.set_cons_succ, List.set_cons_zero, Option.map_some, if_true, if_false, Bool.true_and]
      · simp -implicitDefEqProofs only [EVc, Nat.reduceSub, Int.reduceLT, Int.reduceLE, Int.reduceEq, Int.reduceSub, Int.reduceAdd, Int.reduceMul, Int.reduceNeg, List.replicate, wipeE, List.replicate_zero, List.getElem?_cons_zero, List.getElem?_cons_succ, List.set_cons_succ, List.set_cons_zero, Option.map_some, if_true, if_false, h2, Bool.false_and]
  · simp -implicitDefEqProofs only [EVc, Nat.reduceSub, Int.reduceLT, Int.reduceLE, Int.reduceEq, Int.reduceSub, Int.reduceAdd, Int.reduceMul, Int.reduceNeg, List.replicate, wipeE, List.replicate_zero, List.getElem?_cons_zero, List.getElem?_cons_succ, List.set_cons_succ, List.set_cons_zero, Option.map_some, if_true, if_false, h1]
/-! ### check_market -/
abbrev times (n : Nd) : List Int := ((pre [] n).filter isEnd).map fun x => (x.1.length : Int)
def chk (g : Int) (n : Nd) : Option Err :=
  if g < 1 ∨ 4 < g then some .market
  else if (pre [] n).all (fun x => rightP g x.2.ps) = false ∨ minL (times n) ≠ maxL (times n) then some .market
  else if 40 < (pre [] n).length ∨ 5 < maxL (times n) then some .tooLarge else none
theorem minL_perm {l m : List Int} (h : l.Perm m) (h0 : 0 < l.length) : minL l = minL m := by
  obtain ⟨a1, a2⟩ := minL_spec l h0
  obtain ⟨b1, b2⟩ := minL_spec m (by rw [← h.length_eq]; exact h0)
  exact Int.le_antisymm (a2 _ (h.mem_iff.mpr b1)) (b2 _ (h.mem_iff.mp a1))
theorem maxL_perm {l m : List Int} (h : l.Perm m) (h0 : 0 < l.length) : maxL l = maxL m := by
  obtain ⟨a1, a2⟩ := maxL_spec l h0
  obtain ⟨b1, b2⟩ := maxL_spec m (by rw [← h.length_eq]; exact h0)
  exact Int.le_antisymm (b2 _ (h.mem_iff.mp a1)) (a2 _ (h.mem_iff.mpr b1))
theorem ints_map {α : Type} (f : α → Int) : ∀ l : List α, ints? (l.map fun x => PV.int (f x)) = some (l.map f)
  | [] => rfl
  | x :: l => by
    rw [List.map_cons]
    unfold ints?
    rw [ints_map f l]; rfl
theorem l1_min {α : Type} {S : Store} (f : α → Int) (l : List α) (h : 0 < l.length) : lift1 gMin (.lst (l.map fun x => PV.int (f x))) S = .ok (.int (minL (l.map f))) S := by
  show (match (match ints? (l.map fun x => PV.int (f x)) with | some (b :: bs) => some (PV.int (minL (b :: bs))) | _ => none) with | some z => Res.ok z S | none => .bad) = _
  rw [ints_map f l]
  cases l with
  | nil => cases h
  | cons x l => rfl
theorem l1_max {α : Type} {S : Store} (f : α → Int) (l : List α) (h : 0 < l.length) : lift1 gMax (.lst (l.map fun x => PV.int (f x))) S = .ok (.int (maxL (l.map f))) S := by
  show (match (match ints? (l.map fun x => PV.int (f x)) with | some (b :: bs) => some (PV.int (maxL (b :: bs))) | _ => none) with | some z => Res.ok z S | none => .bad) = _
  rw [ints_map f l]
  cases l with
  | nil => cases h
  | cons x l => rfl
theorem l1_sum {α : Type} {S : Store} (f : α → Int) (l : List α) : lift1 gSum (.lst (l.map fun x => PV.int (f x))) S = .ok (.int (l.map f).sum) S := by
  show (match (ints? (l.map fun x => PV.int (f x))).map (fun bs => PV.int bs.sum) with | some z => Res.ok z S | none => .bad) = _
  rw [ints_map f l]; rfl
mutual
theorem has_end (p : Path) : ∀ n : Nd, ∃ x ∈ pre p n, isEnd x = true
  | .mk ps [] => ⟨(p, .mk ps []), by rw [pre]; exact List.mem_cons_self, rfl⟩
  | .mk ps (k :: ks) => by
    obtain ⟨x, h1, h2⟩ := has_end (p ++ [0]) k
    refine ⟨x, ?_, h2⟩
    rw [pre, pres]
    exact List.mem_cons_of_mem _ (List.mem_append_left _ h1)
end
theorem ends_pos (n : Nd) : 0 < ((pre [] n).filter isEnd).length := by
  obtain ⟨x, h1, h2⟩ := has_end [] n
  exact List.length_pos_of_mem (List.mem_filter.mpr ⟨h1, h2⟩)
def CheckMOk (f : PF) : Prop := ∀ (g : Int) (n : Nd) S, n.Ok → f [mkt g n] S = match chk g n with | some e => .exc e S | none => .ok .non S
theorem checkM_F {f r : PF} (hf : NodesOk f) (hr : RightOk r) : CheckMOk (F_check_market f r) := fun g n S h => by
  suffices q : Sat (F_check_market f r [mkt g n] S) (fun v S' => S' = S ∧ v = .non ∧ chk g n = none) (fun e S' => S' = S ∧ chk g n = some e) by
    cases e : F_check_market f r [mkt g n] S with
    | ok v S' =>
      rw [e] at q
      obtain ⟨rfl, rfl, h1⟩ := q
      rw [h1]
    | exc er S' =>
      rw [e] at q
      obtain ⟨rfl, h1⟩ := q
      rw [h1]
    | bad => rw [e] at q; exact q.elim
  rw [A_check_market]; unfold D_check_market
  simp -implicitDefEqProofs only [EVc, Nat.reduceSub, Int.reduceLT, Int.reduceLE, Int.reduceEq, Int.reduceSub, Int.reduceAdd, Int.reduceMul, Int.reduceNeg, List.replicate, wipeE, List.replicate_zero, List.getElem?_cons_zero, List.getElem?_cons_succ, List.set_cons_succ, List.set_cons_zero, Option.map_some, if_true, if_false]
  unfold chk
  by_cases h1 : g < 1
  · simp -implicitDefEqProofs only [EVc, Nat.reduceSub, Int.reduceLT, Int.reduceLE, Int.reduceEq, Int.reduceSub, Int.reduceAdd, Int.reduceMul, Int.reduceNeg, List.replicate, wipeE, List.replicate_zero, List.getElem?_cons_zero, List.getElem?_cons_succ, List.set_cons_succ, List.set_cons_zero, Option.map_some, if_true, if_false, h1, true_or]
  by_cases h2 : 4 < g
  · simp -implicitDefEqProofs only [EVc, Nat.reduceSub, Int.reduceLT, Int.reduceLE, Int.reduceEq, Int.reduceSub, Int.reduceAdd, Int.reduceMul, Int.reduceNeg, List.replicate, wipeE, List.replicate_zero, List.getElem?_cons_zero, List.getElem?_cons_succ, List.set_cons_succ, List.set_cons_zero, Option.map_some, if_true, if_false, h1, h2, or_true]
  simp -implicitDefEqProofs only [EVc, Nat.reduceSub, Int.reduceLT, Int.reduceLE, Int.reduceEq, Int.reduceSub, Int.reduceAdd, Int.reduceMul, Int.reduceNeg, List.replicate, wipeE, List.replicate_zero, List.getElem?_cons_zero, List.getElem?_cons_succ, List.set_cons_succ, List.set_cons_zero, Option.map_some, if_true, if_false, h1, h2, or_self]
  refine (hf n g S h).n ?_
  rintro v S' ⟨rfl, l, rfl, hp⟩
  simp -implicitDefEqProofs only [EVc, Nat.reduceSub, Int.reduceLT, Int.reduceLE, Int.reduceEq, Int.reduceSub, Int.reduceAdd, Int.reduceMul, Int.reduceNeg, List.replicate, wipeE, List.replicate_zero, List.getElem?_cons_zero, List.getElem?_cons_succ, List.set_cons_succ, List.set_cons_zero, Option.map_some, if_true, if_false]
  rw [comp_filter itm (fun x => PV.int (x.1.length : Int)) isEnd l (fun x _ => ⟨_, rfl, by simp -implicitDefEqProofs only [EVc, Nat.reduceSub, Int.reduceLT, Int.reduceLE, Int.reduceEq, Int.reduceSub, Int.reduceAdd, Int.reduceMul, Int.reduceNeg, List.replicate, wipeE, List.replicate_zero, List.getElem?_cons_zero, List.getElem?_cons_succ, List.set_cons_succ, List.set_cons_zero, Option.map_some, if_true, if_false, Nd.pv_eq, List.length_map, lenEnd], fun _ => by simp -implicitDefEqProofs only [EVc, Nat.reduceSub, Int.reduceLT, Int.reduceLE, Int.reduceEq, Int.reduceSub, Int.reduceAdd, Int.reduceMul, Int.reduceNeg, List.replicate, wipeE, List.replicate_zero, List.getElem?_cons_zero, List.getElem?_cons_succ, List.set_cons_succ, List.set_cons_zero, Option.map_some, if_true, if_false, List.length_map]⟩)]
  simp -implicitDefEqProofs only [EVc, Nat.reduceSub, Int.reduceLT, Int.reduceLE, Int.reduceEq, Int.reduceSub, Int.reduceAdd, Int.reduceMul, Int.reduceNeg, List.replicate, wipeE, List.replicate_zero, List.getElem?_cons_zero, List.getElem?_cons_succ, List.set_cons_succ, List.set_cons_zero, Option.map_some, if_true, if_false]
  rw [comp_map itm (fun x => PV.bl (rightP g x.2.ps)) l (fun x hx => ⟨_, rfl, by
    simp -implicitDefEqProofs only [EVc, Nat.reduceSub, Int.reduceLT, Int.reduceLE, Int.reduceEq, Int.reduceSub, Int.reduceAdd, Int.reduceMul, Int.reduceNeg, List.replicate, wipeE, List.replicate_zero, List.getElem?_cons_zero, List.getElem?_cons_succ, List.set_cons_succ, List.set_cons_zero, Option.map_some, if_true, if_false, Nd.pv_eq]
    exact hr g x.2.ps _ (h.nums x (hp.mem_iff.mp hx))⟩)]
  simp -implicitDefEqProofs only [EVc, Nat.reduceSub, Int.reduceLT, Int.reduceLE, Int.reduceEq, Int.reduceSub, Int.reduceAdd, Int.reduceMul, Int.reduceNeg, List.replicate, wipeE, List.replicate_zero, List.getElem?_cons_zero, List.getElem?_cons_succ, List.set_cons_succ, List.set_cons_zero, Option.map_some, if_true, if_false]
  rw [l1_all]
  have ep := hp.filter isEnd
  have hpos : 0 < (l.filter isEnd).length := by rw [ep.length_eq]; exact ends_pos n
  have em : minL ((l.filter isEnd).map fun x => (x.1.length : Int)) = minL (times n) := minL_perm (ep.map _) (by rw [List.length_map]; exact hpos)
  have ex : maxL ((l.filter isEnd).map fun x => (x.1.length : Int)) = maxL (times n) := maxL_perm (ep.map _) (by rw [List.length_map]; exact hpos)
  have ea : l.all (fun x => rightP g x.2.ps) = (pre [] n).all (fun x => rightP g x.2.ps) := by
    rw [Bool.eq_iff_iff, List.all_eq_true, List.all_eq_true]
    exact ⟨fun q x hx => q x (hp.mem_iff.mpr hx), fun q x hx => q x (hp.mem_iff.mp hx)⟩
  rw [ea]
  cases e1 : (pre [] n).all fun x => rightP g x.2.ps with
  | false => simp -implicitDefEqProofs only [EVc, Nat.reduceSub, Int.reduceLT, Int.reduceLE, Int.reduceEq, Int.reduceSub, Int.reduceAdd, Int.reduceMul, Int.reduceNeg, List.replicate, wipeE, List.replicate_zero, List.getElem?_cons_zero, List.getElem?_cons_succ, List.set_cons_succ, List.set_cons_zero, Option.map_some, if_true, if_false, true_or]
  | true =>
    simp -implicitDefEqProofs only [EVc, Nat.reduceSub, Int.reduceLT, Int.reduceLE, Int.reduceEq, Int.reduceSub, Int.reduceAdd, Int.reduceMul, Int.reduceNeg, List.replicate, wipeE, List.replicate_zero, List.getElem?_cons_zero, List.getElem?_cons_succ, List.set_cons_succ, List.set_cons_zero, Option.map_some, if_true, if_false]
    rw [l1_min _ _ hpos]
    simp -implicitDefEqProofs only [EVc, Nat.reduceSub, Int.reduceLT, Int.reduceLE, Int.reduceEq, Int.reduceSub, Int.reduceAdd, Int.reduceMul, Int.reduceNeg, List.replicate, wipeE, List.replicate_zero, List.getElem?_cons_zero, List.getElem?_cons_succ, List.set_cons_succ, List.set_cons_zero, Option.map_some, if_true, if_false]
    rw [l1_max _ _ hpos]
    simp -implicitDefEqProofs only [EVc, Nat.reduceSub, Int.reduceLT, Int.reduceLE, Int.reduceEq, Int.reduceSub, Int.reduceAdd, Int.reduceMul, Int.reduceNeg, List.replicate, wipeE, List.replicate_zero, List.getElem?_cons_zero, List.getElem?_cons_succ, List.set_cons_succ, List.set_cons_zero, Option.map_some, if_true, if_false, em, ex]
    by_cases h3 : minL (times n) = maxL (times n)
    · simp -implicitDefEqProofs only [EVc, Nat.reduceSub, Int.reduceLT, Int.reduceLE, Int.reduceEq, Int.reduceSub, Int.reduceAdd, Int.reduceMul, Int.reduceNeg, List.replicate, wipeE, List.replicate_zero, List.getElem?_cons_zero, List.getElem?_cons_succ, List.set_cons_succ, List.set_cons_zero, Option.map_some, if_true, if_false, h3, List.length_map, hp.length_eq, ne_eq, not_true, or_self]
      have hc : ((40 : Int) < ((pre [] n).length : Nat)) ↔ 40 < (pre [] n).length := by omega
      by_cases h4 : 40 < (pre [] n).length
      · have h4' := hc.mpr h4
        simp -implicitDefEqProofs only [EVc, Nat.reduceSub, Int.reduceLT, Int.reduceLE, Int.reduceEq, Int.reduceSub, Int.reduceAdd, Int.reduceMul, Int.reduceNeg, List.replicate, wipeE, List.replicate_zero, List.getElem?_cons_zero, List.getElem?_cons_succ, List.set_cons_succ, List.set_cons_zero, Option.map_some, if_true, if_false, h4, h4', true_or]
      · have h4' : ¬ (40 : Int) < ((pre [] n).length : Nat) := fun z => h4 (hc.mp z)
        simp -implicitDefEqProofs only [EVc, Nat.reduceSub, Int.reduceLT, Int.reduceLE, Int.reduceEq, Int.reduceSub, Int.reduceAdd, Int.reduceMul, Int.reduceNeg, List.replicate, wipeE, List.replicate_zero, List.getElem?_cons_zero, List.getElem?_cons_succ, List.set_cons_succ, List.set_cons_zero, Option.map_some, if_true, if_false, h4, h4', false_or]
        rw [l1_max _ _ hpos]
        simp -implicitDefEqProofs only [EVc, Nat.reduceSub, Int.reduceLT, Int.reduceLE, Int.reduceEq, Int.reduceSub, Int.reduceAdd, Int.reduceMul, Int.reduceNeg, List.replicate, wipeE, List.replicate_zero, List.getElem?_cons_zero, List.getElem?_cons_succ, List.set_cons_succ, List.set_cons_zero, Option.map_some, if_true, if_false, ex]
        by_cases h5 : 5 < maxL (times n)
        · simp -implicitDefEqProofs only [EVc, Nat.reduceSub, Int.reduceLT, Int.reduceLE, Int.reduceEq, Int.reduceSub, Int.reduceAdd, Int.reduceMul, Int.reduceNeg, List.replicate, wipeE, List.replicate_zero, List.getElem?_cons_zero, List.getElem?_cons_succ, List.set_cons_succ, List.set_cons_zero, Option.map_some, if_true, if_false, h5]
        · simp -implicitDefEqProofs only [EVc, Nat.reduceSub, Int.reduceLT, Int.reduceLE, Int.reduceEq, Int.reduceSub, Int.reduceAdd, Int.reduceMul, Int.reduceNeg, List.replicate, wipeE, List.replicate_zero, List.getElem?_cons_zero, List.getElem?_cons_succ, List.set_cons_succ, List.set_cons_zero, Option.map_some, if_true, if_false, h5]
    · simp -implicitDefEqProofs only [EVc, Nat.reduceSub, Int.reduceLT, Int.reduceLE, Int.reduceEq, Int.reduceSub, Int.reduceAdd, Int.reduceMul, Int.reduceNeg, List.replicate, wipeE, List.replicate_zero, List.getElem?_cons_zero, List.getElem?_cons_succ, List.set_cons_succ, List.set_cons_zero, Option.map_some, if_true, if_false, h3, ne_eq, not_false_eq_true, or_true]
/-! ### the law's own walk -/
def LNodesOk (f : PF) : Prop := ∀ (n : Nd) (g : Int) S, n.Ok → f [mkt g n] S = .ok (.lst ((pre [] n).map itm)) S
theorem lnodes_F {f : PF} (hf : FindOk f) : LNodesOk (F_law_nodes f) := fun n g S h => by
  refine Sat.eq ?_
  rw [A_law_nodes]; unfold D_law_nodes
  simp -implicitDefEqProofs only [EVc, Nat.reduceSub, Int.reduceLT, Int.reduceLE, Int.reduceEq, Int.reduceSub, Int.reduceAdd, Int.reduceMul, Int.reduceNeg, List.replicate, wipeE, List.replicate_zero, List.getElem?_cons_zero, List.getElem?_cons_succ, List.set_cons_succ, List.set_cons_zero, Option.map_some, if_true, if_false]
  have zz : 5000 ≤ sz := by decide
  have hmany := h.many
  have e7 : rng1F (.int 7) S = .ok ((List.range 7).map fun (j : Nat) => PV.int j) S := rng1F_n (n := 7) (by decide)
  rw [e7]
  simp -implicitDefEqProofs only [EVc, Nat.reduceSub, Int.reduceLT, Int.reduceLE, Int.reduceEq, Int.reduceSub, Int.reduceAdd, Int.reduceMul, Int.reduceNeg, List.replicate, wipeE, List.replicate_zero, List.getElem?_cons_zero, List.getElem?_cons_succ, List.set_cons_succ, List.set_cons_zero, Option.map_some, if_true, if_false]
  have small : ∀ l : List (Path × Nd), l.length ≤ (l.flatMap preT).length := fun l => by
    induction l with
    | nil => exact Nat.zero_le _
    | cons y l ih =>
      rw [List.flatMap_cons, List.length_cons, List.length_append]
      have := pre_pos y
      omega
  have step : ∀ lv : List (Path × Nd), (lv.flatMap preT).Perm (lv ++ (lv.flatMap kids).flatMap preT) := fun lv => by
    induction lv with
    | nil => exact .refl _
    | cons x lv ih =>
      rw [List.flatMap_cons, pre_kids, List.flatMap_cons, List.flatMap_append, List.cons_append, List.cons_append]
      refine .cons _ ?_
      refine (List.Perm.append_left _ ih).trans ?_
      rw [← List.append_assoc, ← List.append_assoc]
      exact List.Perm.append_right _ List.perm_append_comm
  refine SatF_for (fun (j : Nat) => PV.int j) (fun dn l ρ S' => S = S' ∧ dn.length + l.length = 7 ∧ ∃ (rows lv : List (Path × Nd)) (c3 c4 c5 c6 : Cell), ρ = [.fz (mkt g n), .fz (.lst (rows.map itm)), .fz (.lst (lv.map itm)), c3, c4, c5, c6, .un, .un] ∧ (rows ++ lv.flatMap preT).Perm (pre [] n) ∧ ∀ x ∈ lv, x.1.length = dn.length) (List.range 7) [] _ _
    ⟨rfl, rfl, [], [([], n)], .un, .un, .un, .un, rfl, by simp, fun x hx => by rw [List.mem_singleton] at hx; subst hx; rfl⟩ ?_ ?_
  · rintro dn j l ρ S' ⟨rfl, hN, rows, lv, c3, c4, c5, c6, rfl, hp, hl⟩
    refine ⟨_, rfl, ?_⟩
    have hlen := hp.length_eq
    rw [List.length_append] at hlen
    have h1 := small lv
    simp -implicitDefEqProofs only [EVc, Nat.reduceSub, Int.reduceLT, Int.reduceLE, Int.reduceEq, Int.reduceSub, Int.reduceAdd, Int.reduceMul, Int.reduceNeg, List.replicate, wipeE, List.replicate_zero, List.getElem?_cons_zero, List.getElem?_cons_succ, List.set_cons_succ, List.set_cons_zero, Option.map_some, if_true, if_false]
    rw [l2_addLs (by rw [List.length_map, List.length_map]; omega)]
    simp -implicitDefEqProofs only [EVc, Nat.reduceSub, Int.reduceLT, Int.reduceLE, Int.reduceEq, Int.reduceSub, Int.reduceAdd, Int.reduceMul, Int.reduceNeg, List.replicate, wipeE, List.replicate_zero, List.getElem?_cons_zero, List.getElem?_cons_succ, List.set_cons_succ, List.set_cons_zero, Option.map_some, if_true, if_false]
    refine SatF_for itm (fun dn2 l2 ρ S' => S = S' ∧ dn2 ++ l2 = lv ∧ ∃ c5 c6 : Cell, ρ = [.fz (mkt g n), .fz (.lst (rows.map itm ++ lv.map itm)), .fz (.lst (lv.map itm)), .fz (.int (j : Int)), .fz (.lst ((dn2.flatMap kids).map itm)), c5, c6, .un, .un]) lv [] _ _
      ⟨rfl, rfl, c5, c6, rfl⟩ ?_ ?_
    · rintro dn2 x l2 ρ S' ⟨rfl, hd, c5, c6, rfl⟩
      refine ⟨_, rfl, ?_⟩
      have hxl : x ∈ lv := by rw [← hd]; simp
      have hxm : x ∈ pre [] n := hp.mem_iff.mp (List.mem_append_right _ (List.mem_flatMap.mpr ⟨x, hxl, by rw [pre_kids]; exact List.mem_cons_self⟩))
      have hk := kids_le h hxm
      have hdp := h.deep x hxm
      rw [Nd.pv_eq]
      simp -implicitDefEqProofs only [EVc, Nat.reduceSub, Int.reduceLT, Int.reduceLE, Int.reduceEq, Int.reduceSub, Int.reduceAdd, Int.reduceMul, Int.reduceNeg, List.replicate, wipeE, List.replicate_zero, List.getElem?_cons_zero, List.getElem?_cons_succ, List.set_cons_succ, List.set_cons_zero, Option.map_some, if_true, if_false, List.length_map]
      rw [rng1F_n (by omega)]
      simp -implicitDefEqProofs only [EVc, Nat.reduceSub, Int.reduceLT, Int.reduceLE, Int.reduceEq, Int.reduceSub, Int.reduceAdd, Int.reduceMul, Int.reduceNeg, List.replicate, wipeE, List.replicate_zero, List.getElem?_cons_zero, List.getElem?_cons_succ, List.set_cons_succ, List.set_cons_zero, Option.map_some, if_true, if_false]
      rw [comp_map (fun (j : Nat) => PV.int j) (fun i => itm ((kids x).getD i ([], n))) (List.range x.2.ks.length) (fun i hi => ?_)]
      · simp -implicitDefEqProofs only [EVc, Nat.reduceSub, Int.reduceLT, Int.reduceLE, Int.reduceEq, Int.reduceSub, Int.reduceAdd, Int.reduceMul, Int.reduceNeg, List.replicate, wipeE, List.replicate_zero, List.getElem?_cons_zero, List.getElem?_cons_succ, List.set_cons_succ, List.set_cons_zero, Option.map_some, if_true, if_false]
        have e1 : (List.range x.2.ks.length).map (fun i => itm ((kids x).getD i ([], n))) = (kids x).map itm := by
          apply List.ext_getElem?
          intro i
          rw [List.getElem?_map, List.getElem?_map]
          by_cases hi : i < x.2.ks.length
          · rw [List.getElem?_range hi, List.getElem?_eq_getElem (by rw [kids_len]; exact hi)]
            simp [List.getD, List.getElem?_eq_getElem (show i < (kids x).length by rw [kids_len]; exact hi)]
          · rw [List.getElem?_eq_none (by simpa using hi), List.getElem?_eq_none (by rw [kids_len]; omega)]; rfl
        rw [e1]
        have h2 : ((dn2 ++ [x]).flatMap kids).length ≤ (lv.flatMap preT).length := by
          have a1 : (lv.flatMap kids).length ≤ (lv.flatMap preT).length := by
            rw [(step lv).length_eq, List.length_append]
            have := small (lv.flatMap kids)
            omega
          have a2 : ((dn2 ++ [x]).flatMap kids).length ≤ (lv.flatMap kids).length := by
            rw [← hd, show dn2 ++ x :: l2 = (dn2 ++ [x]) ++ l2 by simp, List.flatMap_append (xs := dn2 ++ [x]), List.length_append]
            omega
          omega
        have e3 : (dn2 ++ [x]).flatMap kids = dn2.flatMap kids ++ kids x := by simp
        rw [e3, List.length_append] at h2
        rw [l2_addLs (by rw [List.length_map, List.length_map]; omega)]
        simp -implicitDefEqProofs only [EVc, Nat.reduceSub, Int.reduceLT, Int.reduceLE, Int.reduceEq, Int.reduceSub, Int.reduceAdd, Int.reduceMul, Int.reduceNeg, List.replicate, wipeE, List.replicate_zero, List.getElem?_cons_zero, List.getElem?_cons_succ, List.set_cons_succ, List.set_cons_zero, Option.map_some, if_true, if_false]
        rw [e3, List.map_append (l₁ := dn2.flatMap kids)]
        exact ⟨by rw [← hd]; simp, _, _, rfl⟩
      · rw [List.mem_range] at hi
        have em : x.2.ks[i]? = some x.2.ks[i] := List.getElem?_eq_getElem hi
        refine ⟨_, rfl, ?_⟩
        simp -implicitDefEqProofs only [EVc, Nat.reduceSub, Int.reduceLT, Int.reduceLE, Int.reduceEq, Int.reduceSub, Int.reduceAdd, Int.reduceMul, Int.reduceNeg, List.replicate, wipeE, List.replicate_zero, List.getElem?_cons_zero, List.getElem?_cons_succ, List.set_cons_succ, List.set_cons_zero, Option.map_some, if_true, if_false]
        rw [l2_addTs (by rw [List.length_map, List.length_singleton]; omega)]
        simp -implicitDefEqProofs only [EVc, Nat.reduceSub, Int.reduceLT, Int.reduceLE, Int.reduceEq, Int.reduceSub, Int.reduceAdd, Int.reduceMul, Int.reduceNeg, List.replicate, wipeE, List.replicate_zero, List.getElem?_cons_zero, List.getElem?_cons_succ, List.set_cons_succ, List.set_cons_zero, Option.map_some, if_true, if_false]
        rw [ixk em]
        simp -implicitDefEqProofs only [EVc, Nat.reduceSub, Int.reduceLT, Int.reduceLE, Int.reduceEq, Int.reduceSub, Int.reduceAdd, Int.reduceMul, Int.reduceNeg, List.replicate, wipeE, List.replicate_zero, List.getElem?_cons_zero, List.getElem?_cons_succ, List.set_cons_succ, List.set_cons_zero, Option.map_some, if_true, if_false]
        rw [List.getD_eq_getElem?_getD, kids_get x em, pa_snoc]
        rfl
    · intro dn2 ρ S' hI
      obtain ⟨hS, hd, c5, c6, hρ⟩ := hI
      subst hS; subst hρ
      rw [List.append_nil] at hd
      subst hd
      simp -implicitDefEqProofs only [EVc, Nat.reduceSub, Int.reduceLT, Int.reduceLE, Int.reduceEq, Int.reduceSub, Int.reduceAdd, Int.reduceMul, Int.reduceNeg, List.replicate, wipeE, List.replicate_zero, List.getElem?_cons_zero, List.getElem?_cons_succ, List.set_cons_succ, List.set_cons_zero, Option.map_some, if_true, if_false]
      rw [List.length_cons] at hN
      refine ⟨by rw [List.length_append, List.length_singleton]; omega, rows ++ dn2, dn2.flatMap kids, .fz (.int (j : Int)), .fz (.lst ((dn2.flatMap kids).map itm)), c5, c6, by rw [List.map_append], ?_, fun x hx => ?_⟩
      · refine List.Perm.trans ?_ hp
        rw [List.append_assoc]
        exact List.Perm.append_left _ (step dn2).symm
      · obtain ⟨y, hy, hx⟩ := List.mem_flatMap.mp hx
        unfold kids at hx
        obtain ⟨z, _, rfl⟩ := List.mem_map.mp hx
        rw [List.length_append, List.length_singleton, List.length_append, List.length_singleton, hl y hy]
  · intro dn ρ S' hI
    obtain ⟨hS, hN, rows, lv, c3, c4, c5, c6, hρ, hp, hl⟩ := hI
    subst hS; subst hρ
    rw [List.length_nil] at hN
    have hlv : lv = [] := by
      cases lv with
      | nil => rfl
      | cons x lv =>
        have h1 := hl x List.mem_cons_self
        have hxm : x ∈ pre [] n := hp.mem_iff.mp (List.mem_append_right _ (List.mem_flatMap.mpr ⟨x, List.mem_cons_self, by rw [pre_kids]; exact List.mem_cons_self⟩))
        have := h.deep x hxm
        omega
    subst hlv
    simp only [List.flatMap_nil, List.append_nil] at hp
    simp -implicitDefEqProofs only [EVc, Nat.reduceSub, Int.reduceLT, Int.reduceLE, Int.reduceEq, Int.reduceSub, Int.reduceAdd, Int.reduceMul, Int.reduceNeg, List.replicate, wipeE, List.replicate_zero, List.getElem?_cons_zero, List.getElem?_cons_succ, List.set_cons_succ, List.set_cons_zero, Option.map_some, if_true, if_false]
    rw [comp_map itm (fun x => pav x.1) rows (fun x _ => ⟨_, rfl, by simp -implicitDefEqProofs only [EVc, Nat.reduceSub, Int.reduceLT, Int.reduceLE, Int.reduceEq, Int.reduceSub, Int.reduceAdd, Int.reduceMul, Int.reduceNeg, List.replicate, wipeE, List.replicate_zero, List.getElem?_cons_zero, List.getElem?_cons_succ, List.set_cons_succ, List.set_cons_zero, Option.map_some, if_true, if_false]⟩)]
    simp -implicitDefEqProofs only [EVc, Nat.reduceSub, Int.reduceLT, Int.reduceLE, Int.reduceEq, Int.reduceSub, Int.reduceAdd, Int.reduceMul, Int.reduceNeg, List.replicate, wipeE, List.replicate_zero, List.getElem?_cons_zero, List.getElem?_cons_succ, List.set_cons_succ, List.set_cons_zero, Option.map_some, if_true, if_false]
    have so := sort_pa (S := S) (pre_fst_asc n) (hp.map (·.1))
    rw [List.map_map, List.map_map] at so
    have e : rows.map (fun x => pav x.1) = rows.map (pav ∘ (·.1)) := rfl
    rw [e, so]
    simp -implicitDefEqProofs only [EVc, Nat.reduceSub, Int.reduceLT, Int.reduceLE, Int.reduceEq, Int.reduceSub, Int.reduceAdd, Int.reduceMul, Int.reduceNeg, List.replicate, wipeE, List.replicate_zero, List.getElem?_cons_zero, List.getElem?_cons_succ, List.set_cons_succ, List.set_cons_zero, Option.map_some, if_true, if_false]
    rw [comp_map (pav ∘ fun x : Path × Nd => x.1) itm (pre [] n) (fun x hx => ?_)]
    · simp -implicitDefEqProofs only [EVc, Nat.reduceSub, Int.reduceLT, Int.reduceLE, Int.reduceEq, Int.reduceSub, Int.reduceAdd, Int.reduceMul, Int.reduceNeg, List.replicate, wipeE, List.replicate_zero, List.getElem?_cons_zero, List.getElem?_cons_succ, List.set_cons_succ, List.set_cons_zero, Option.map_some, if_true, if_false]
    · refine ⟨_, rfl, ?_⟩
      obtain ⟨q, h1, h2⟩ := pre_find [] n x hx
      rw [List.nil_append] at h1
      rw [← h1] at h2
      have hc : (pav ∘ fun x : Path × Nd => x.1) x = pav x.1 := rfl
      rw [hc]
      simp -implicitDefEqProofs only [EVc, Nat.reduceSub, Int.reduceLT, Int.reduceLE, Int.reduceEq, Int.reduceSub, Int.reduceAdd, Int.reduceMul, Int.reduceNeg, List.replicate, wipeE, List.replicate_zero, List.getElem?_cons_zero, List.getElem?_cons_succ, List.set_cons_succ, List.set_cons_zero, Option.map_some, if_true, if_false]
      rw [hf.at h2]
      simp -implicitDefEqProofs only [EVc, Nat.reduceSub, Int.reduceLT, Int.reduceLE, Int.reduceEq, Int.reduceSub, Int.reduceAdd, Int.reduceMul, Int.reduceNeg, List.replicate, wipeE, List.replicate_zero, List.getElem?_cons_zero, List.getElem?_cons_succ, List.set_cons_succ, List.set_cons_zero, Option.map_some, if_true, if_false]
def LEndsOk (f : PF) : Prop := ∀ (n : Nd) (g : Int) S, n.Ok → f [mkt g n] S = .ok (.lst (((pre [] n).filter isEnd).map fun x => pav x.1)) S
theorem lends_F {f : PF} (hf : LNodesOk f) : LEndsOk (F_law_ends f) := fun n g S h => by
  refine Sat.eq ?_
  rw [A_law_ends]; unfold D_law_ends
  simp -implicitDefEqProofs only [EVc, Nat.reduceSub, Int.reduceLT, Int.reduceLE, Int.reduceEq, Int.reduceSub, Int.reduceAdd, Int.reduceMul, Int.reduceNeg, List.replicate, wipeE, List.replicate_zero, List.getElem?_cons_zero, List.getElem?_cons_succ, List.set_cons_succ, List.set_cons_zero, Option.map_some, if_true, if_false]
  rw [hf n g S h]
  simp -implicitDefEqProofs only [EVc, Nat.reduceSub, Int.reduceLT, Int.reduceLE, Int.reduceEq, Int.reduceSub, Int.reduceAdd, Int.reduceMul, Int.reduceNeg, List.replicate, wipeE, List.replicate_zero, List.getElem?_cons_zero, List.getElem?_cons_succ, List.set_cons_succ, List.set_cons_zero, Option.map_some, if_true, if_false]
  rw [comp_filter itm (fun x => pav x.1) isEnd (pre [] n) (fun x _ => ⟨_, rfl, by simp -implicitDefEqProofs only [EVc, Nat.reduceSub, Int.reduceLT, Int.reduceLE, Int.reduceEq, Int.reduceSub, Int.reduceAdd, Int.reduceMul, Int.reduceNeg, List.replicate, wipeE, List.replicate_zero, List.getElem?_cons_zero, List.getElem?_cons_succ, List.set_cons_succ, List.set_cons_zero, Option.map_some, if_true, if_false, Nd.pv_eq, List.length_map, lenEnd], fun _ => by simp -implicitDefEqProofs only [EVc, Nat.reduceSub, Int.reduceLT, Int.reduceLE, Int.reduceEq, Int.reduceSub, Int.reduceAdd, Int.reduceMul, Int.reduceNeg, List.replicate, wipeE, List.replicate_zero, List.getElem?_cons_zero, List.getElem?_cons_succ, List.set_cons_succ, List.set_cons_zero, Option.map_some, if_true, if_false]⟩)]
  simp -implicitDefEqProofs only [EVc, Nat.reduceSub, Int.reduceLT, Int.reduceLE, Int.reduceEq, Int.reduceSub, Int.reduceAdd, Int.reduceMul, Int.reduceNeg, List.replicate, wipeE, List.replicate_zero, List.getElem?_cons_zero, List.getElem?_cons_succ, List.set_cons_succ, List.set_cons_zero, Option.map_some, if_true, if_false]
end Py
/-! Markets as the laws draw them. -/
namespace Py
open L2

/-! ### order of fractions -/
def Fr.le (a b : Fr) : Prop := a.n * b.d ≤ b.n * a.d
theorem fmk_cross {p q : Int} (h : q ≠ 0) : (fmk p q).n * q = p * (fmk p q).d := fr_cross h
theorem le_fmk {a : Fr} {p q : Int} (hq : 0 < q) : a.le (fmk p q) ↔ a.n * q ≤ p * a.d := by
  unfold Fr.le
  have hc := fmk_cross (p := p) (Int.ne_of_gt hq)
  have hd : 0 < (fmk p q).d := frD_pos (Int.ne_of_gt hq)
  rw [← Int.mul_le_mul_right hq, Int.mul_right_comm (fmk p q).n, hc, ← Int.mul_le_mul_right (a := (fmk p q).d) (b := a.n * q) (c := p * a.d) hd]
  rw [Int.mul_right_comm a.n, Int.mul_right_comm p]
theorem fmk_le {a : Fr} {p q : Int} (hq : 0 < q) : (fmk p q).le a ↔ p * a.d ≤ a.n * q := by
  unfold Fr.le
  have hc := fmk_cross (p := p) (Int.ne_of_gt hq)
  have hd : 0 < (fmk p q).d := frD_pos (Int.ne_of_gt hq)
  rw [← Int.mul_le_mul_right hq, Int.mul_right_comm (fmk p q).n, hc, ← Int.mul_le_mul_right (a := (fmk p q).d) (b := p * a.d) (c := a.n * q) hd]
  rw [Int.mul_right_comm p, Int.mul_right_comm a.n]
theorem Fr.le_trans {a b c : Fr} (hb : 0 < b.d) (ha : 0 < a.d) (hc : 0 < c.d) (h1 : a.le b) (h2 : b.le c) : a.le c := by
  unfold Fr.le at *
  rw [← Int.mul_le_mul_right hb]
  have e1 := Int.mul_le_mul_of_nonneg_right h1 (Int.le_of_lt hc)
  have e2 := Int.mul_le_mul_of_nonneg_right h2 (Int.le_of_lt ha)
  rw [Int.mul_right_comm a.n, Int.mul_right_comm c.n]
  refine Int.le_trans e1 (Int.le_trans (Int.le_of_eq ?_) e2)
  rw [Int.mul_right_comm]
theorem cmp_le0 {a b : Fr} : a.cmp b ≤ 0 ↔ a.le b := by
  unfold Fr.cmp Fr.le
  split
  · exact ⟨fun _ => by omega, fun _ => by decide⟩
  · split
    · exact ⟨fun h => absurd h (by decide), fun h => by omega⟩
    · exact ⟨fun _ => by omega, fun _ => by decide⟩
theorem fmk_nn {p q : Int} (hp : 0 ≤ p) (hq : 0 < q) : 0 ≤ (fmk p q).n := by
  have hc := fmk_cross (p := p) (Int.ne_of_gt hq)
  have hd : 0 < (fmk p q).d := frD_pos (Int.ne_of_gt hq)
  have : 0 ≤ (fmk p q).n * q := by rw [hc]; exact Int.mul_nonneg hp (Int.le_of_lt hd)
  exact Int.nonneg_of_mul_nonneg_left this hq
theorem Fr.add_nn {a b : Fr} (ha : 0 < a.d) (hb : 0 < b.d) (h1 : 0 ≤ a.n) (h2 : 0 ≤ b.n) : 0 ≤ (a.add b).n :=
  fmk_nn (Int.add_nonneg (Int.mul_nonneg h1 (Int.le_of_lt hb)) (Int.mul_nonneg h2 (Int.le_of_lt ha))) (Int.mul_pos ha hb)
theorem Fr.mul_nn {a b : Fr} (ha : 0 < a.d) (hb : 0 < b.d) (h1 : 0 ≤ a.n) (h2 : 0 ≤ b.n) : 0 ≤ (a.mul b).n :=
  fmk_nn (Int.mul_nonneg h1 h2) (Int.mul_pos ha hb)
theorem Fr.le_add {a b : Fr} (ha : 0 < a.d) (hb : 0 < b.d) (h : 0 ≤ b.n) : a.le (a.add b) := by
  refine (le_fmk (Int.mul_pos ha hb)).mpr ?_
  rw [Int.add_mul, ← Int.mul_assoc, Int.mul_right_comm a.n]
  have : 0 ≤ b.n * a.d * a.d := Int.mul_nonneg (Int.mul_nonneg h (Int.le_of_lt ha)) (Int.le_of_lt ha)
  omega
theorem Fr.sub_le {a b : Fr} (ha : 0 < a.d) (hb : 0 < b.d) (h : 0 ≤ b.n) : (a.sub b).le a := by
  refine (fmk_le (Int.mul_pos ha hb)).mpr ?_
  rw [Int.sub_mul, ← Int.mul_assoc, Int.mul_right_comm a.n a.d]
  have : 0 ≤ b.n * a.d * a.d := Int.mul_nonneg (Int.mul_nonneg h (Int.le_of_lt ha)) (Int.le_of_lt ha)
  omega
theorem one_lt2 {k : Nat} (h : 1 ≤ k) : lt2 1 k := Nat.lt_of_lt_of_le (show (1 : Int).natAbs < 2 ^ 1 by decide) (Nat.pow_le_pow_right (by decide) h)
theorem int_bd {w : Int} {k : Nat} (hw : w.natAbs < 2 ^ k) (h : 1 ≤ k) : (⟨w, 1⟩ : Fr).bd k := ⟨Int.zero_lt_one, hw, one_lt2 h⟩
theorem zero_bd {k : Nat} (h : 1 ≤ k) : Fr.zero.bd k := int_bd (Nat.two_pow_pos _) h
/-! ### lowest terms -/
def Fr.red (a : Fr) : Prop := Nat.gcd a.n.natAbs a.d.natAbs = 1
theorem fmk_red {p q : Int} (h : q ≠ 0) : (fmk p q).red := fr_coprime h
theorem red_int (w : Int) : (⟨w, 1⟩ : Fr).red := Nat.gcd_one_right _
theorem Fr.red_eq {a b : Fr} (ha : a.red) (hb : b.red) (pa : 0 < a.d) (pb : 0 < b.d) (h : a.n * b.d = b.n * a.d) : a = b := by
  have h' : a.n.natAbs * b.d.natAbs = b.n.natAbs * a.d.natAbs := by rw [← Int.natAbs_mul, ← Int.natAbs_mul, h]
  have d1 : a.d.natAbs ∣ b.d.natAbs := by
    have : a.d.natAbs ∣ a.n.natAbs * b.d.natAbs := ⟨b.n.natAbs, by rw [h', Nat.mul_comm]⟩
    exact (Nat.Coprime.dvd_of_dvd_mul_left (show Nat.Coprime a.d.natAbs a.n.natAbs from by rw [Nat.Coprime, Nat.gcd_comm]; exact ha) this)
  have d2 : b.d.natAbs ∣ a.d.natAbs := by
    have : b.d.natAbs ∣ b.n.natAbs * a.d.natAbs := ⟨a.n.natAbs, by rw [← h', Nat.mul_comm]⟩
    exact (Nat.Coprime.dvd_of_dvd_mul_left (show Nat.Coprime b.d.natAbs b.n.natAbs from by rw [Nat.Coprime, Nat.gcd_comm]; exact hb) this)
  have e := Nat.dvd_antisymm d1 d2
  have ed : a.d = b.d := by omega
  rw [ed] at h
  have en := Int.eq_of_mul_eq_mul_right (Int.ne_of_gt pb) h
  cases a; cases b
  simp only at ed en
  rw [ed, en]
/-! ### a price pair around a price -/
structure PPg (k : Nat) (p : PP) : Prop where
  bd : bdP k p
  red : p.1.red ∧ p.2.red
  nn : 0 ≤ p.2.n
  le : p.2.le p.1
def SpreadOk (f : PF) : Prop := ∀ (R S : Store) (m : Fr) (k : Nat), Dr R S → m.bd k → k ≤ 2000 → 0 ≤ m.n → Sat (f [.ref 0, m.pv] S) (fun v S' => ∃ p : PP, v = ppv p ∧ PPg (k + 6) p ∧ p.2.le m ∧ m.le p.1 ∧ Dr R S') noE
theorem spread_F {t a s : PF} (ht : TakeOk t) (ha : FAdd a) (hs : FSub s) : SpreadOk (F_law_spread t s a) := fun R S m k hd hm hk h0 => by
  rw [A_law_spread]; unfold D_law_spread
  simp -implicitDefEqProofs only [EVc, Nat.reduceSub, Int.reduceLT, Int.reduceLE, Int.reduceEq, Int.reduceSub, Int.reduceAdd, Int.reduceMul, Int.reduceNeg, List.replicate, wipeE, List.replicate_zero, List.getElem?_cons_zero, List.getElem?_cons_succ, List.set_cons_succ, List.set_cons_zero, Option.map_some, if_true, if_false]
  obtain ⟨r, S1, e1, r0, r5, d1⟩ := ht R S 5 hd (by decide) (by decide +kernel)
  rw [e1]
  simp -implicitDefEqProofs only [EVc, Nat.reduceSub, Int.reduceLT, Int.reduceLE, Int.reduceEq, Int.reduceSub, Int.reduceAdd, Int.reduceMul, Int.reduceNeg, List.replicate, wipeE, List.replicate_zero, List.getElem?_cons_zero, List.getElem?_cons_succ, List.set_cons_succ, List.set_cons_zero, Option.map_some, if_true, if_false]
  have hpick : ∃ w : Fr, lift2 gIx (.tup [.tup [.int 0, .int 1], .tup [.int 0, .int 1], .tup [.int 1, .int 4], .tup [.int 1, .int 2], .tup [.int 1, .int 1]]) (.int r) S1 = .ok w.pv S1 ∧ w.bd 4 ∧ 0 ≤ w.n := by
    have hr : r = 0 ∨ r = 1 ∨ r = 2 ∨ r = 3 ∨ r = 4 := by omega
    rcases hr with rfl | rfl | rfl | rfl | rfl
    · exact ⟨⟨0, 1⟩, rfl, ⟨by decide, by unfold lt2; decide, by unfold lt2; decide⟩, by decide⟩
    · exact ⟨⟨0, 1⟩, rfl, ⟨by decide, by unfold lt2; decide, by unfold lt2; decide⟩, by decide⟩
    · exact ⟨⟨1, 4⟩, rfl, ⟨by decide, by unfold lt2; decide, by unfold lt2; decide⟩, by decide⟩
    · exact ⟨⟨1, 2⟩, rfl, ⟨by decide, by unfold lt2; decide, by unfold lt2; decide⟩, by decide⟩
    · exact ⟨⟨1, 1⟩, rfl, ⟨by decide, by unfold lt2; decide, by unfold lt2; decide⟩, by decide⟩
  obtain ⟨w, ew, hw, hw0⟩ := hpick
  rw [ew]
  simp -implicitDefEqProofs only [EVc, Nat.reduceSub, Int.reduceLT, Int.reduceLE, Int.reduceEq, Int.reduceSub, Int.reduceAdd, Int.reduceMul, Int.reduceNeg, List.replicate, wipeE, List.replicate_zero, List.getElem?_cons_zero, List.getElem?_cons_succ, List.set_cons_succ, List.set_cons_zero, Option.map_some, if_true, if_false]
  rw [hs m w S1 (hm.mono (by omega)) (hw.mono (by decide))]
  simp -implicitDefEqProofs only [EVc, Nat.reduceSub, Int.reduceLT, Int.reduceLE, Int.reduceEq, Int.reduceSub, Int.reduceAdd, Int.reduceMul, Int.reduceNeg, List.replicate, wipeE, List.replicate_zero, List.getElem?_cons_zero, List.getElem?_cons_succ, List.set_cons_succ, List.set_cons_zero, Option.map_some, if_true, if_false]
  rw [ha m w S1 (hm.mono (by omega)) (hw.mono (by decide))]
  simp -implicitDefEqProofs only [EVc, Nat.reduceSub, Int.reduceLT, Int.reduceLE, Int.reduceEq, Int.reduceSub, Int.reduceAdd, Int.reduceMul, Int.reduceNeg, List.replicate, wipeE, List.replicate_zero, List.getElem?_cons_zero, List.getElem?_cons_succ, List.set_cons_succ, List.set_cons_zero, Option.map_some, if_true, if_false]
  have hadd := (hm.add hw).mono (show k + 4 + 1 ≤ k + 6 by omega)
  have hsub := (hm.sub hw).mono (show k + 4 + 1 ≤ k + 6 by omega)
  have l1 := Fr.le_add hm.pos hw.pos hw0
  have l2 := Fr.sub_le hm.pos hw.pos hw0
  by_cases h1 : 0 ≤ (m.sub w).n
  · simp -implicitDefEqProofs only [EVc, Nat.reduceSub, Int.reduceLT, Int.reduceLE, Int.reduceEq, Int.reduceSub, Int.reduceAdd, Int.reduceMul, Int.reduceNeg, List.replicate, wipeE, List.replicate_zero, List.getElem?_cons_zero, List.getElem?_cons_succ, List.set_cons_succ, List.set_cons_zero, Option.map_some, if_true, if_false, h1]
    exact ⟨(m.add w, m.sub w), rfl, ⟨⟨hadd, hsub⟩, ⟨fmk_red (Fr.dd hm hw), fmk_red (Fr.dd hm hw)⟩, h1, Fr.le_trans hm.pos hsub.pos hadd.pos l2 l1⟩, l2, l1, d1⟩
  · simp -implicitDefEqProofs only [EVc, Nat.reduceSub, Int.reduceLT, Int.reduceLE, Int.reduceEq, Int.reduceSub, Int.reduceAdd, Int.reduceMul, Int.reduceNeg, List.replicate, wipeE, List.replicate_zero, List.getElem?_cons_zero, List.getElem?_cons_succ, List.set_cons_succ, List.set_cons_zero, Option.map_some, if_true, if_false, h1]
    have hz : Fr.zero.bd (k + 6) := ⟨by decide, Nat.two_pow_pos _, Nat.lt_of_lt_of_le (show (1 : Int).natAbs < 2 ^ 1 by decide) (Nat.pow_le_pow_right (by decide) (by omega))⟩
    have lz : Fr.zero.le m := by show 0 * m.d ≤ m.n * 1; omega
    exact ⟨(m.add w, Fr.zero), rfl, ⟨⟨hadd, hz⟩, ⟨fmk_red (Fr.dd hm hw), red_int 0⟩, Int.le_refl 0, Fr.le_trans hm.pos hz.pos hadd.pos lz l1⟩, lz, l1, d1⟩
/-! ### trees of one height -/
structure PsOk (g : Nat) (ps : List PP) : Prop where
  len : ps.length + 1 = g
  good : ∀ p ∈ ps, PPg 200 p
def Tree (g : Nat) : Nat → Nd → Prop
  | 0, n => PsOk g n.ps ∧ n.ks = []
  | h + 1, n => PsOk g n.ps ∧ 0 < n.ks.length ∧ n.ks.length ≤ 3 ∧ ∀ m ∈ n.ks, Tree g h m
theorem Tree.ps {g : Nat} : ∀ {h : Nat} {n : Nd}, Tree g h n → PsOk g n.ps
  | 0, _, t => t.1
  | _ + 1, _, t => t.1
/-- bits of a mean at a height -/
def hB : Nat → Nat
  | 0 => 4
  | h + 1 => 3 * hB h + 14
abbrev MidOk (h : Nat) (m : Fr) : Prop := m.bd (hB h) ∧ 0 ≤ m.n
abbrev nmv (y : Nd × List Fr) : PV := .tup [y.1.pv, .lst (y.2.map Fr.pv)]
structure NodeG (g h : Nat) (y : Nd × List Fr) : Prop where
  tree : Tree g h y.1
  len : y.2.length + 1 = g
  mids : ∀ m ∈ y.2, MidOk h m
def LNodeOk (h : Nat) (f : PF) : Prop := ∀ (R S : Store) (g : Nat) (t l : Int) (w : Bool), Dr R S → 1 ≤ g → g ≤ 4 → l = t + h → Sat (f [.ref 0, .int (g : Int), .int t, .int l, .bl w] S) (fun v S' => ∃ y : Nd × List Fr, v = nmv y ∧ NodeG g h y ∧ Dr R S') noE
theorem hB_4 : ∀ h, 4 ≤ hB h
  | 0 => Nat.le_refl _
  | h + 1 => by show 4 ≤ 3 * hB h + 14; omega
theorem node_F {h : Nat} (hh : h ≤ 2) {t nd fr ad mu sp : PF} (ht : TakeOk t) (hn : ∀ h', h = h' + 1 → LNodeOk h' nd) (hf : FFrac fr) (ha : FAdd ad) (hm : FMul mu) (hs : SpreadOk sp) : LNodeOk h (F_law_node t nd fr ad mu sp) := fun R S g tm l w hd g1 g4 hl => by
  have hb2 : hB h ≤ 100 := by
    have : h = 0 ∨ h = 1 ∨ h = 2 := by omega
    rcases this with rfl | rfl | rfl <;> decide
  rw [A_law_node]; unfold D_law_node
  -- how many come next
  rw [dSeq_ap, Sat_flo, SatF_sq]
  refine SatF.cut (fun ρ S1 => ∃ m : Nat, m ≤ 3 ∧ (h = 0 → m = 0) ∧ (0 < h → 0 < m) ∧ Dr R S1 ∧ ρ = [.fz (.ref 0), .fz (.int (g : Int)), .fz (.int tm), .fz (.int l), .fz (.bl w), .fz (.int (m : Int)), .un, .un, .un, .un, .un, .un, .un, .un, .un]) ?_ ?_
  · simp -implicitDefEqProofs only [EVc, Nat.reduceSub, Int.reduceLT, Int.reduceLE, Int.reduceEq, Int.reduceSub, Int.reduceAdd, Int.reduceMul, Int.reduceNeg, List.replicate, wipeE, List.replicate_zero, List.getElem?_cons_zero, List.getElem?_cons_succ, List.set_cons_succ, List.set_cons_zero, Option.map_some, if_true, if_false]
    by_cases h0 : tm = l
    · simp -implicitDefEqProofs only [EVc, Nat.reduceSub, Int.reduceLT, Int.reduceLE, Int.reduceEq, Int.reduceSub, Int.reduceAdd, Int.reduceMul, Int.reduceNeg, List.replicate, wipeE, List.replicate_zero, List.getElem?_cons_zero, List.getElem?_cons_succ, List.set_cons_succ, List.set_cons_zero, Option.map_some, if_true, if_false, h0]
      exact ⟨0, by omega, fun _ => rfl, fun hp => by omega, hd, rfl⟩
    · simp -implicitDefEqProofs only [EVc, Nat.reduceSub, Int.reduceLT, Int.reduceLE, Int.reduceEq, Int.reduceSub, Int.reduceAdd, Int.reduceMul, Int.reduceNeg, List.replicate, wipeE, List.replicate_zero, List.getElem?_cons_zero, List.getElem?_cons_succ, List.set_cons_succ, List.set_cons_zero, Option.map_some, if_true, if_false, h0]
      have go : ∀ k : Int, 2 ≤ k → k ≤ 3 → Sat (t [.ref 0, .int k] S) (fun v S => Sat (lift2 gAdd (.int 1) v S) (fun v S1 => ∃ m : Nat, m ≤ 3 ∧ (h = 0 → m = 0) ∧ (0 < h → 0 < m) ∧ Dr R S1 ∧ [Cell.fz (.ref 0), .fz (.int (g : Int)), .fz (.int tm), .fz (.int l), .fz (.bl w), .fz v, .un, .un, .un, .un, .un, .un, .un, .un, .un] = [.fz (.ref 0), .fz (.int (g : Int)), .fz (.int tm), .fz (.int l), .fz (.bl w), .fz (.int (m : Int)), .un, .un, .un, .un, .un, .un, .un, .un, .un]) noE) noE := fun k k2 k3 => by
        obtain ⟨r, S1, e1, r0, r5, d1⟩ := ht R S k hd (by omega) (okI_small (by omega))
        rw [e1]
        simp -implicitDefEqProofs only [EVc, Nat.reduceSub, Int.reduceLT, Int.reduceLE, Int.reduceEq, Int.reduceSub, Int.reduceAdd, Int.reduceMul, Int.reduceNeg, List.replicate, wipeE, List.replicate_zero, List.getElem?_cons_zero, List.getElem?_cons_succ, List.set_cons_succ, List.set_cons_zero, Option.map_some, if_true, if_false]
        refine ⟨(1 + r).toNat, by omega, fun hz => by omega, fun hp => by omega, d1, ?_⟩
        rw [show (((1 + r).toNat : Nat) : Int) = 1 + r by omega]
      by_cases h1 : l = 1
      · simp -implicitDefEqProofs only [EVc, Nat.reduceSub, Int.reduceLT, Int.reduceLE, Int.reduceEq, Int.reduceSub, Int.reduceAdd, Int.reduceMul, Int.reduceNeg, List.replicate, wipeE, List.replicate_zero, List.getElem?_cons_zero, List.getElem?_cons_succ, List.set_cons_succ, List.set_cons_zero, Option.map_some, if_true, if_false, h1]
        have := go 3 (by decide) (by decide)
        rw [h1] at this
        exact this
      · simp -implicitDefEqProofs only [EVc, Nat.reduceSub, Int.reduceLT, Int.reduceLE, Int.reduceEq, Int.reduceSub, Int.reduceAdd, Int.reduceMul, Int.reduceNeg, List.replicate, wipeE, List.replicate_zero, List.getElem?_cons_zero, List.getElem?_cons_succ, List.set_cons_succ, List.set_cons_zero, Option.map_some, if_true, if_false, h1]
        exact go 2 (by decide) (by decide)
  rintro ρ S1 ⟨m, m3, m0, mp, d1, rfl⟩
  -- the children
  dsimp only
  rw [dSeq_ap, SatF_sq]
  generalize hfl : dAsg 6 _ _ _ = fl
  refine SatF.cut (fun ρ S2 => ∃ ch : List (Nd × List Fr), ch.length = m ∧ (∀ y ∈ ch, ∃ h', h = h' + 1 ∧ NodeG g h' y) ∧ Dr R S2 ∧ ρ = [.fz (.ref 0), .fz (.int (g : Int)), .fz (.int tm), .fz (.int l), .fz (.bl w), .fz (.int (m : Int)), .fz (.lst (ch.map nmv)), .un, .un, .un, .un, .un, .un, .un, .un]) ?_ ?_
  · subst hfl
    simp -implicitDefEqProofs only [EVc, Nat.reduceSub, Int.reduceLT, Int.reduceLE, Int.reduceEq, Int.reduceSub, Int.reduceAdd, Int.reduceMul, Int.reduceNeg, List.replicate, wipeE, List.replicate_zero, List.getElem?_cons_zero, List.getElem?_cons_succ, List.set_cons_succ, List.set_cons_zero, Option.map_some, if_true, if_false]
    rw [rng1F_n (by omega)]
    simp -implicitDefEqProofs only [EVc, Nat.reduceSub, Int.reduceLT, Int.reduceLE, Int.reduceEq, Int.reduceSub, Int.reduceAdd, Int.reduceMul, Int.reduceNeg, List.replicate, wipeE, List.replicate_zero, List.getElem?_cons_zero, List.getElem?_cons_succ, List.set_cons_succ, List.set_cons_zero, Option.map_some, if_true, if_false]
    obtain ⟨ys, S2, e2, l2, p2, d2⟩ := comp_draw (ρ := [.fz (.ref 0), .fz (.int (g : Int)), .fz (.int tm), .fz (.int l), .fz (.bl w), .fz (.int (m : Int)), .un, .un, .un, .un, .un, .un, .un, .un, .un]) (t := tN 12) (e := dCall nd (dCons (dVar 0) (dCons (dVar 1) (dCons (dOp2 gAdd (dBor 2) (dK (.int 1))) (dCons (dVar 3) (dCons (dVar 4) dNil)))))) (fun (j : Nat) => PV.int j) nmv (fun y => ∃ h', h = h' + 1 ∧ NodeG g h' y) (Dr R) (List.range m) S1 d1 (fun x hx S hS => by
        refine ⟨_, rfl, ?_⟩
        simp -implicitDefEqProofs only [EVc, Nat.reduceSub, Int.reduceLT, Int.reduceLE, Int.reduceEq, Int.reduceSub, Int.reduceAdd, Int.reduceMul, Int.reduceNeg, List.replicate, wipeE, List.replicate_zero, List.getElem?_cons_zero, List.getElem?_cons_succ, List.set_cons_succ, List.set_cons_zero, Option.map_some, if_true, if_false]
        rw [List.mem_range] at hx
        obtain ⟨h', rfl⟩ : ∃ h', h = h' + 1 := ⟨h - 1, by omega⟩
        refine (hn h' rfl R S g (tm + 1) l w hS g1 g4 (by omega)).to ?_
        rintro v S' ⟨y, rfl, gy, dy⟩
        exact ⟨y, rfl, ⟨h', rfl, gy⟩, dy⟩)
    rw [e2]
    simp -implicitDefEqProofs only [EVc, Nat.reduceSub, Int.reduceLT, Int.reduceLE, Int.reduceEq, Int.reduceSub, Int.reduceAdd, Int.reduceMul, Int.reduceNeg, List.replicate, wipeE, List.replicate_zero, List.getElem?_cons_zero, List.getElem?_cons_succ, List.set_cons_succ, List.set_cons_zero, Option.map_some, if_true, if_false]
    exact ⟨ys, by rw [l2, List.length_range], p2, d2, rfl⟩
  rintro ρ S2 ⟨ch, cl, cg, d2, rfl⟩
  -- the weights
  dsimp only
  rw [dSeq_ap, SatF_sq]
  generalize hfl : dAsg 7 _ _ _ = fl
  refine SatF.cut (fun ρ S3 => ∃ ws : List Int, ws.length = m ∧ (∀ x ∈ ws, 1 ≤ x ∧ x ≤ 3) ∧ Dr R S3 ∧ ρ = [.fz (.ref 0), .fz (.int (g : Int)), .fz (.int tm), .fz (.int l), .fz (.bl w), .fz (.int (m : Int)), .fz (.lst (ch.map nmv)), .fz (.lst (ws.map PV.int)), .un, .un, .un, .un, .un, .un, .un]) ?_ ?_
  · subst hfl
    simp -implicitDefEqProofs only [EVc, Nat.reduceSub, Int.reduceLT, Int.reduceLE, Int.reduceEq, Int.reduceSub, Int.reduceAdd, Int.reduceMul, Int.reduceNeg, List.replicate, wipeE, List.replicate_zero, List.getElem?_cons_zero, List.getElem?_cons_succ, List.set_cons_succ, List.set_cons_zero, Option.map_some, if_true, if_false]
    rw [rng1F_n (by omega)]
    simp -implicitDefEqProofs only [EVc, Nat.reduceSub, Int.reduceLT, Int.reduceLE, Int.reduceEq, Int.reduceSub, Int.reduceAdd, Int.reduceMul, Int.reduceNeg, List.replicate, wipeE, List.replicate_zero, List.getElem?_cons_zero, List.getElem?_cons_succ, List.set_cons_succ, List.set_cons_zero, Option.map_some, if_true, if_false]
    obtain ⟨ys, S3, e3, l3, p3, d3⟩ := comp_draw (ρ := [.fz (.ref 0), .fz (.int (g : Int)), .fz (.int tm), .fz (.int l), .fz (.bl w), .fz (.int (m : Int)), .fz (.lst (ch.map nmv)), .un, .un, .un, .un, .un, .un, .un, .un]) (t := tN 12) (e := dOp2 gAdd (dK (.int 1)) (dCall t (dCons (dVar 0) (dCons (dK (.int 3)) dNil)))) (fun (j : Nat) => PV.int j) PV.int (fun x => 1 ≤ x ∧ x ≤ 3) (Dr R) (List.range m) S2 d2 (fun x hx S hS => by
        refine ⟨_, rfl, ?_⟩
        simp -implicitDefEqProofs only [EVc, Nat.reduceSub, Int.reduceLT, Int.reduceLE, Int.reduceEq, Int.reduceSub, Int.reduceAdd, Int.reduceMul, Int.reduceNeg, List.replicate, wipeE, List.replicate_zero, List.getElem?_cons_zero, List.getElem?_cons_succ, List.set_cons_succ, List.set_cons_zero, Option.map_some, if_true, if_false]
        obtain ⟨r, S1, e1, r0, r5, d1⟩ := ht R S 3 hS (by decide) (by decide +kernel)
        rw [e1]
        simp -implicitDefEqProofs only [EVc, Nat.reduceSub, Int.reduceLT, Int.reduceLE, Int.reduceEq, Int.reduceSub, Int.reduceAdd, Int.reduceMul, Int.reduceNeg, List.replicate, wipeE, List.replicate_zero, List.getElem?_cons_zero, List.getElem?_cons_succ, List.set_cons_succ, List.set_cons_zero, Option.map_some, if_true, if_false]
        exact ⟨1 + r, rfl, by omega, d1⟩)
    rw [e3]
    simp -implicitDefEqProofs only [EVc, Nat.reduceSub, Int.reduceLT, Int.reduceLE, Int.reduceEq, Int.reduceSub, Int.reduceAdd, Int.reduceMul, Int.reduceNeg, List.replicate, wipeE, List.replicate_zero, List.getElem?_cons_zero, List.getElem?_cons_succ, List.set_cons_succ, List.set_cons_zero, Option.map_some, if_true, if_false]
    exact ⟨ys, by rw [l3, List.length_range], p3, d3, rfl⟩
  rintro ρ S3 ⟨ws, wl, wg, d3, rfl⟩
  -- the means
  dsimp only
  rw [dSeq_ap, SatF_sq]
  simp only [dAsgO_ap, EVc, Nat.reduceSub, Int.reduceLT, Int.reduceLE, Int.reduceEq, Int.reduceSub, Int.reduceAdd, Int.reduceMul, Int.reduceNeg, List.replicate, wipeE, List.replicate_zero, List.getElem?_cons_zero, List.getElem?_cons_succ, List.set_cons_succ, List.set_cons_zero, Option.map_some, if_true, if_false]
  rw [rng1F_z (by omega) (by omega), show ((g : Int) - 1) = ((g - 1 : Nat) : Int) by omega, rng0]
  simp -implicitDefEqProofs only [EVc, Nat.reduceSub, Int.reduceLT, Int.reduceLE, Int.reduceEq, Int.reduceSub, Int.reduceAdd, Int.reduceMul, Int.reduceNeg, List.replicate, wipeE, List.replicate_zero, List.getElem?_cons_zero, List.getElem?_cons_succ, List.set_cons_succ, List.set_cons_zero, Option.map_some, if_true, if_false]
  refine SatF_for (fun (j : Nat) => PV.int j) (fun dn lr ρ S => ∃ i, dn.length = i ∧ lr = List.range' i (g - 1 - i) ∧ i ≤ g - 1 ∧ Dr R S ∧ ∃ (ms : List Fr) (c9 c11 c12 c13 : Cell), ms.length = i ∧ (∀ x ∈ ms, MidOk h x) ∧ ρ = [.fz (.ref 0), .fz (.int (g : Int)), .fz (.int tm), .fz (.int l), .fz (.bl w), .fz (.int (m : Int)), .fz (.lst (ch.map nmv)), .fz (.lst (ws.map PV.int)), .ow (.lst (ms.map Fr.pv)), c9, .un, c11, c12, c13, .un]) _ [] _ _
    ⟨0, rfl, by rw [List.range_eq_range', Nat.sub_zero], by omega, d3, [], .un, .un, .un, .un, rfl, fun _ h => (nomatch h), rfl⟩ ?_ ?_
  · rintro dn j lr ρ S ⟨i, hi, hlr, hig, dS, ms, c9, c11, c12, c13, ml, mg, rfl⟩
    have hi' : i < g - 1 := by
      rcases Nat.lt_or_ge i (g - 1) with q | q
      · exact q
      · rw [show g - 1 - i = 0 by omega] at hlr; cases hlr
    rw [show g - 1 - i = (g - 1 - (i + 1)) + 1 by omega, List.range'_succ] at hlr
    obtain ⟨rfl, rfl⟩ := List.cons.inj hlr
    refine ⟨_, rfl, ?_⟩
    dsimp only
    rw [dSeq_ap, SatF_sq]
    generalize hfl : dAsg 11 _ _ _ = fl
    refine SatF.cut (fun ρ S => ∃ x : Fr, x.bd 4 ∧ 0 ≤ x.n ∧ Dr R S ∧ ρ = [.fz (.ref 0), .fz (.int (g : Int)), .fz (.int tm), .fz (.int l), .fz (.bl w), .fz (.int (m : Int)), .fz (.lst (ch.map nmv)), .fz (.lst (ws.map PV.int)), .ow (.lst (ms.map Fr.pv)), .fz (.int (j : Int)), .un, .fz x.pv, c12, c13, .un]) ?_ ?_
    · subst hfl
      simp -implicitDefEqProofs only [EVc, Nat.reduceSub, Int.reduceLT, Int.reduceLE, Int.reduceEq, Int.reduceSub, Int.reduceAdd, Int.reduceMul, Int.reduceNeg, List.replicate, wipeE, List.replicate_zero, List.getElem?_cons_zero, List.getElem?_cons_succ, List.set_cons_succ, List.set_cons_zero, Option.map_some, if_true, if_false]
      obtain ⟨r, S4, e4, r0, r9, d4⟩ := ht R S 9 dS (by decide) (by decide +kernel)
      rw [e4]
      simp -implicitDefEqProofs only [EVc, Nat.reduceSub, Int.reduceLT, Int.reduceLE, Int.reduceEq, Int.reduceSub, Int.reduceAdd, Int.reduceMul, Int.reduceNeg, List.replicate, wipeE, List.replicate_zero, List.getElem?_cons_zero, List.getElem?_cons_succ, List.set_cons_succ, List.set_cons_zero, Option.map_some, if_true, if_false]
      obtain ⟨q, S5, e5, q0, q2, d5⟩ := ht R S4 2 d4 (by decide) (by decide +kernel)
      rw [e5]
      simp -implicitDefEqProofs only [EVc, Nat.reduceSub, Int.reduceLT, Int.reduceLE, Int.reduceEq, Int.reduceSub, Int.reduceAdd, Int.reduceMul, Int.reduceNeg, List.replicate, wipeE, List.replicate_zero, List.getElem?_cons_zero, List.getElem?_cons_succ, List.set_cons_succ, List.set_cons_zero, Option.map_some, if_true, if_false]
      rw [hf r (1 + q) S5 (by omega) (Nat.lt_of_lt_of_le (show (1 + q).natAbs < 2 ^ 2 by omega) (Nat.pow_le_pow_right (by decide) (by decide)))]
      simp -implicitDefEqProofs only [EVc, Nat.reduceSub, Int.reduceLT, Int.reduceLE, Int.reduceEq, Int.reduceSub, Int.reduceAdd, Int.reduceMul, Int.reduceNeg, List.replicate, wipeE, List.replicate_zero, List.getElem?_cons_zero, List.getElem?_cons_succ, List.set_cons_succ, List.set_cons_zero, Option.map_some, if_true, if_false]
      exact ⟨fmk r (1 + q), fmk_bd (by omega) (show r.natAbs < 2 ^ 4 by omega) (show (1 + q).natAbs < 2 ^ 4 by omega), fmk_nn r0 (by omega), d5, rfl⟩
    rintro ρ S4 ⟨x, hx, hx0, d4, rfl⟩
    dsimp only
    rw [dSeq_ap, SatF_sq]
    generalize hfl : dIfS _ _ _ _ _ = fl
    refine SatF.cut (fun ρ S => ∃ (x : Fr) (c12 c13 : Cell), MidOk h x ∧ Dr R S ∧ ρ = [.fz (.ref 0), .fz (.int (g : Int)), .fz (.int tm), .fz (.int l), .fz (.bl w), .fz (.int (m : Int)), .fz (.lst (ch.map nmv)), .fz (.lst (ws.map PV.int)), .ow (.lst (ms.map Fr.pv)), .fz (.int (j : Int)), .un, .fz x.pv, c12, c13, .un]) ?_ ?_
    · subst hfl
      have no : ∃ (x' : Fr) (c12' c13' : Cell), MidOk h x' ∧ Dr R S4 ∧ [Cell.fz (.ref 0), .fz (.int (g : Int)), .fz (.int tm), .fz (.int l), .fz (.bl w), .fz (.int (m : Int)), .fz (.lst (ch.map nmv)), .fz (.lst (ws.map PV.int)), .ow (.lst (ms.map Fr.pv)), .fz (.int (j : Int)), .un, .fz x.pv, c12, c13, .un] = [.fz (.ref 0), .fz (.int (g : Int)), .fz (.int tm), .fz (.int l), .fz (.bl w), .fz (.int (m : Int)), .fz (.lst (ch.map nmv)), .fz (.lst (ws.map PV.int)), .ow (.lst (ms.map Fr.pv)), .fz (.int (j : Int)), .un, .fz x'.pv, c12', c13', .un] :=
        ⟨x, c12, c13, ⟨hx.mono (hB_4 h), hx0⟩, d4, rfl⟩
      simp -implicitDefEqProofs only [EVc, Nat.reduceSub, Int.reduceLT, Int.reduceLE, Int.reduceEq, Int.reduceSub, Int.reduceAdd, Int.reduceMul, Int.reduceNeg, List.replicate, wipeE, List.replicate_zero, List.getElem?_cons_zero, List.getElem?_cons_succ, List.set_cons_succ, List.set_cons_zero, Option.map_some, if_true, if_false]
      by_cases hm0 : (0 : Int) < (m : Int)
      · simp -implicitDefEqProofs only [EVc, Nat.reduceSub, Int.reduceLT, Int.reduceLE, Int.reduceEq, Int.reduceSub, Int.reduceAdd, Int.reduceMul, Int.reduceNeg, List.replicate, wipeE, List.replicate_zero, List.getElem?_cons_zero, List.getElem?_cons_succ, List.set_cons_succ, List.set_cons_zero, Option.map_some, if_true, if_false, hm0]
        cases w with
        | true => simp -implicitDefEqProofs only [EVc, Nat.reduceSub, Int.reduceLT, Int.reduceLE, Int.reduceEq, Int.reduceSub, Int.reduceAdd, Int.reduceMul, Int.reduceNeg, List.replicate, wipeE, List.replicate_zero, List.getElem?_cons_zero, List.getElem?_cons_succ, List.set_cons_succ, List.set_cons_zero, Option.map_some, if_true, if_false]; exact no
        | false =>
          simp -implicitDefEqProofs only [EVc, Nat.reduceSub, Int.reduceLT, Int.reduceLE, Int.reduceEq, Int.reduceSub, Int.reduceAdd, Int.reduceMul, Int.reduceNeg, List.replicate, wipeE, List.replicate_zero, List.getElem?_cons_zero, List.getElem?_cons_succ, List.set_cons_succ, List.set_cons_zero, Option.map_some, if_true, if_false]
          rw [rng1F_n (by omega)]
          simp -implicitDefEqProofs only [EVc, Nat.reduceSub, Int.reduceLT, Int.reduceLE, Int.reduceEq, Int.reduceSub, Int.reduceAdd, Int.reduceMul, Int.reduceNeg, List.replicate, wipeE, List.replicate_zero, List.getElem?_cons_zero, List.getElem?_cons_succ, List.set_cons_succ, List.set_cons_zero, Option.map_some, if_true, if_false]
          obtain ⟨h', rfl⟩ : ∃ h', h = h' + 1 := by
            have : ch ≠ [] := fun z => by rw [z] at cl; simp at cl; omega
            obtain ⟨y, ys, rfl⟩ := List.exists_cons_of_ne_nil this
            obtain ⟨h', e, _⟩ := cg y List.mem_cons_self
            exact ⟨h', e⟩
          have hb' : hB (h' + 1) = 3 * hB h' + 14 := rfl
          refine SatF_for (fun (j : Nat) => PV.int j) (fun dn lr ρ S => S4 = S ∧ ∃ i, dn.length = i ∧ lr = List.range' i (m - i) ∧ i ≤ m ∧ ∃ (t : Fr) (c12 : Cell), t.bd (1 + i * (hB h' + 3)) ∧ 0 ≤ t.n ∧ ρ = [.fz (.ref 0), .fz (.int (g : Int)), .fz (.int tm), .fz (.int l), .fz (.bl false), .fz (.int (m : Int)), .fz (.lst (ch.map nmv)), .fz (.lst (ws.map PV.int)), .ow (.lst (ms.map Fr.pv)), .fz (.int (j : Int)), .un, .fz x.pv, c12, .fz t.pv, .un]) _ [] _ _
            ⟨rfl, 0, rfl, by rw [List.range_eq_range', Nat.sub_zero], by omega, Fr.zero, c12, zero_bd (by omega), Int.le_refl 0, rfl⟩ ?_ ?_
          · rintro dn k lr ρ S ⟨rfl, i, hi2, hlr2, him, t, c12, tb, t0, rfl⟩
            have hi'' : i < m := by
              rcases Nat.lt_or_ge i m with q | q
              · exact q
              · rw [show m - i = 0 by omega] at hlr2; cases hlr2
            rw [show m - i = (m - (i + 1)) + 1 by omega, List.range'_succ] at hlr2
            obtain ⟨rfl, rfl⟩ := List.cons.inj hlr2
            refine ⟨_, rfl, ?_⟩
            have ec : ch[k]? = some ch[k] := List.getElem?_eq_getElem (by omega)
            have ew : ws[k]? = some ws[k] := List.getElem?_eq_getElem (by omega)
            obtain ⟨h'', eh, ng⟩ := cg _ (List.mem_of_getElem? ec)
            obtain rfl : h' = h'' := by omega
            have hwk := wg _ (List.mem_of_getElem? ew)
            generalize ch[k] = y at *
            generalize ws[k] = wk at *
            have em : y.2[j]? = some (y.2[j]'(by have := ng.len; omega)) := List.getElem?_eq_getElem _
            have hmid := ng.mids _ (List.mem_of_getElem? em)
            generalize y.2[j]'_ = mk at *
            simp -implicitDefEqProofs only [EVc, Nat.reduceSub, Int.reduceLT, Int.reduceLE, Int.reduceEq, Int.reduceSub, Int.reduceAdd, Int.reduceMul, Int.reduceNeg, List.replicate, wipeE, List.replicate_zero, List.getElem?_cons_zero, List.getElem?_cons_succ, List.set_cons_succ, List.set_cons_zero, Option.map_some, if_true, if_false]
            rw [ixL (show (ch.map nmv)[k]? = some (nmv y) by rw [List.getElem?_map, ec]; rfl)]
            simp -implicitDefEqProofs only [EVc, Nat.reduceSub, Int.reduceLT, Int.reduceLE, Int.reduceEq, Int.reduceSub, Int.reduceAdd, Int.reduceMul, Int.reduceNeg, List.replicate, wipeE, List.replicate_zero, List.getElem?_cons_zero, List.getElem?_cons_succ, List.set_cons_succ, List.set_cons_zero, Option.map_some, if_true, if_false]
            rw [ixL (show (y.2.map Fr.pv)[j]? = some mk.pv by rw [List.getElem?_map, em]; rfl)]
            simp -implicitDefEqProofs only [EVc, Nat.reduceSub, Int.reduceLT, Int.reduceLE, Int.reduceEq, Int.reduceSub, Int.reduceAdd, Int.reduceMul, Int.reduceNeg, List.replicate, wipeE, List.replicate_zero, List.getElem?_cons_zero, List.getElem?_cons_succ, List.set_cons_succ, List.set_cons_zero, Option.map_some, if_true, if_false]
            rw [ixL (show (ws.map PV.int)[k]? = some (.int wk) by rw [List.getElem?_map, ew]; rfl)]
            simp -implicitDefEqProofs only [EVc, Nat.reduceSub, Int.reduceLT, Int.reduceLE, Int.reduceEq, Int.reduceSub, Int.reduceAdd, Int.reduceMul, Int.reduceNeg, List.replicate, wipeE, List.replicate_zero, List.getElem?_cons_zero, List.getElem?_cons_succ, List.set_cons_succ, List.set_cons_zero, Option.map_some, if_true, if_false]
            have hwb : (⟨wk, 1⟩ : Fr).bd 2 := int_bd (show wk.natAbs < 4 by omega) (by decide)
            have b1 := hmid.1.mul hwb
            have b2 : 1 + k * (hB h' + 3) ≤ 2000 := by
              have : k * (hB h' + 3) ≤ 3 * (hB h' + 3) := Nat.mul_le_mul_right _ (by omega)
              omega
            have e1 := hm mk ⟨wk, 1⟩ S4 (hmid.1.mono (by omega)) (hwb.mono (by decide))
            rw [show PV.tup [.int wk, .int 1] = (⟨wk, 1⟩ : Fr).pv from rfl, e1]
            simp -implicitDefEqProofs only [EVc, Nat.reduceSub, Int.reduceLT, Int.reduceLE, Int.reduceEq, Int.reduceSub, Int.reduceAdd, Int.reduceMul, Int.reduceNeg, List.replicate, wipeE, List.replicate_zero, List.getElem?_cons_zero, List.getElem?_cons_succ, List.set_cons_succ, List.set_cons_zero, Option.map_some, if_true, if_false]
            rw [ha t _ S4 (tb.mono (by omega)) (b1.mono (by omega))]
            simp -implicitDefEqProofs only [EVc, Nat.reduceSub, Int.reduceLT, Int.reduceLE, Int.reduceEq, Int.reduceSub, Int.reduceAdd, Int.reduceMul, Int.reduceNeg, List.replicate, wipeE, List.replicate_zero, List.getElem?_cons_zero, List.getElem?_cons_succ, List.set_cons_succ, List.set_cons_zero, Option.map_some, if_true, if_false]
            refine ⟨k + 1, by rw [List.length_append, List.length_singleton, hi2], rfl, by omega, t.add (mk.mul ⟨wk, 1⟩), _, (tb.add b1).mono ?_, Fr.add_nn tb.pos b1.pos t0 (Fr.mul_nn hmid.1.pos Int.zero_lt_one hmid.2 (by show 0 ≤ wk; omega)), rfl⟩
            rw [Nat.add_mul]; omega
          · intro dn ρ S hI
            obtain ⟨hS, i, hi2, hlr2, him, t, c12, tb, t0, hρ⟩ := hI
            subst hS; subst hρ
            have hi'' : i = m := by
              rcases Nat.lt_or_ge i m with q | q
              · rw [show m - i = (m - (i + 1)) + 1 by omega, List.range'_succ] at hlr2; cases hlr2
              · omega
            have bt : 1 + i * (hB h' + 3) ≤ 3 * hB h' + 10 := by
              have : i * (hB h' + 3) ≤ 3 * (hB h' + 3) := Nat.mul_le_mul_right _ (by omega)
              omega
            simp -implicitDefEqProofs only [EVc, Nat.reduceSub, Int.reduceLT, Int.reduceLE, Int.reduceEq, Int.reduceSub, Int.reduceAdd, Int.reduceMul, Int.reduceNeg, List.replicate, wipeE, List.replicate_zero, List.getElem?_cons_zero, List.getElem?_cons_succ, List.set_cons_succ, List.set_cons_zero, Option.map_some, if_true, if_false]
            have es : lift1 gSum (.lst (ws.map PV.int)) S4 = .ok (.int ws.sum) S4 := by
              have := l1_sum (S := S4) (fun x => x) ws
              rw [List.map_id'' (fun _ => rfl)] at this
              exact this
            rw [es]
            simp -implicitDefEqProofs only [EVc, Nat.reduceSub, Int.reduceLT, Int.reduceLE, Int.reduceEq, Int.reduceSub, Int.reduceAdd, Int.reduceMul, Int.reduceNeg, List.replicate, wipeE, List.replicate_zero, List.getElem?_cons_zero, List.getElem?_cons_succ, List.set_cons_succ, List.set_cons_zero, Option.map_some, if_true, if_false]
            have hsum : ∀ l : List Int, (∀ x ∈ l, 1 ≤ x ∧ x ≤ 3) → (l.length : Int) ≤ l.sum ∧ l.sum ≤ 3 * l.length := fun l => by
              induction l with
              | nil => intro _; exact ⟨by simp, by simp⟩
              | cons a l ih =>
                intro hl
                have h1 := hl a List.mem_cons_self
                obtain ⟨h2, h3⟩ := ih fun x hx => hl x (List.mem_cons_of_mem _ hx)
                rw [List.sum_cons, List.length_cons]
                omega
            obtain ⟨s1, s2⟩ := hsum ws wg
            have hsb : (⟨1, ws.sum⟩ : Fr).bd 4 := ⟨by show 0 < ws.sum; omega, one_lt2 (by decide), by show ws.sum.natAbs < 16; omega⟩
            have e1 := hm t ⟨1, ws.sum⟩ S4 (tb.mono (by omega)) (hsb.mono (by decide))
            rw [show PV.tup [.int 1, .int ws.sum] = (⟨1, ws.sum⟩ : Fr).pv from rfl, e1]
            simp -implicitDefEqProofs only [EVc, Nat.reduceSub, Int.reduceLT, Int.reduceLE, Int.reduceEq, Int.reduceSub, Int.reduceAdd, Int.reduceMul, Int.reduceNeg, List.replicate, wipeE, List.replicate_zero, List.getElem?_cons_zero, List.getElem?_cons_succ, List.set_cons_succ, List.set_cons_zero, Option.map_some, if_true, if_false]
            exact ⟨t.mul ⟨1, ws.sum⟩, _, _, ⟨(tb.mul hsb).mono (by omega), Fr.mul_nn tb.pos hsb.pos t0 (show (0 : Int) ≤ 1 by decide)⟩, d4, rfl⟩
      · simp -implicitDefEqProofs only [EVc, Nat.reduceSub, Int.reduceLT, Int.reduceLE, Int.reduceEq, Int.reduceSub, Int.reduceAdd, Int.reduceMul, Int.reduceNeg, List.replicate, wipeE, List.replicate_zero, List.getElem?_cons_zero, List.getElem?_cons_succ, List.set_cons_succ, List.set_cons_zero, Option.map_some, if_true, if_false, hm0]; exact no
    rintro ρ S5 ⟨x, c12, c13, hxm, d5, rfl⟩
    simp -implicitDefEqProofs only [EVc, Nat.reduceSub, Int.reduceLT, Int.reduceLE, Int.reduceEq, Int.reduceSub, Int.reduceAdd, Int.reduceMul, Int.reduceNeg, List.replicate, wipeE, List.replicate_zero, List.getElem?_cons_zero, List.getElem?_cons_succ, List.set_cons_succ, List.set_cons_zero, Option.map_some, if_true, if_false]
    have zz : 100 ≤ sz := by decide
    rw [push_ok (by rw [List.length_map]; omega)]
    simp -implicitDefEqProofs only [EVc, Nat.reduceSub, Int.reduceLT, Int.reduceLE, Int.reduceEq, Int.reduceSub, Int.reduceAdd, Int.reduceMul, Int.reduceNeg, List.replicate, wipeE, List.replicate_zero, List.getElem?_cons_zero, List.getElem?_cons_succ, List.set_cons_succ, List.set_cons_zero, Option.map_some, if_true, if_false]
    refine ⟨j + 1, by rw [List.length_append, List.length_singleton, hi], rfl, by omega, d5, ms ++ [x], .fz (.int (j : Int)), .fz x.pv, c12, c13, by rw [List.length_append, List.length_singleton, ml], fun z hz => ?_, by rw [List.map_append]; rfl⟩
    rcases List.mem_append.mp hz with hz | hz
    · exact mg z hz
    · rw [List.mem_singleton] at hz; subst hz; exact hxm
  · intro dn ρ S hI
    obtain ⟨i, hi, hlr, hig, dS, ms, c9, c11, c12, c13, ml, mg, hρ⟩ := hI
    subst hρ
    have hi' : i = g - 1 := by
      rcases Nat.lt_or_ge i (g - 1) with q | q
      · rw [show g - 1 - i = (g - 1 - (i + 1)) + 1 by omega, List.range'_succ] at hlr; cases hlr
      · omega
    simp -implicitDefEqProofs only [EVc, Nat.reduceSub, Int.reduceLT, Int.reduceLE, Int.reduceEq, Int.reduceSub, Int.reduceAdd, Int.reduceMul, Int.reduceNeg, List.replicate, wipeE, List.replicate_zero, List.getElem?_cons_zero, List.getElem?_cons_succ, List.set_cons_succ, List.set_cons_zero, Option.map_some, if_true, if_false]
    obtain ⟨ps, S6, e6, l6, p6, d6⟩ := comp_draw (ρ := [.fz (.ref 0), .fz (.int (g : Int)), .fz (.int tm), .fz (.int l), .fz (.bl w), .fz (.int (m : Int)), .fz (.lst (ch.map nmv)), .fz (.lst (ws.map PV.int)), .fz (.lst (ms.map Fr.pv)), c9, .un, .un, c12, c13, .un]) (t := tN 11) (e := dCall sp (dCons (dVar 0) (dCons (dVar 11) dNil))) Fr.pv ppv (fun p => PPg 200 p) (Dr R) ms S dS (fun x hx S hS => by
        refine ⟨_, rfl, ?_⟩
        simp -implicitDefEqProofs only [EVc, Nat.reduceSub, Int.reduceLT, Int.reduceLE, Int.reduceEq, Int.reduceSub, Int.reduceAdd, Int.reduceMul, Int.reduceNeg, List.replicate, wipeE, List.replicate_zero, List.getElem?_cons_zero, List.getElem?_cons_succ, List.set_cons_succ, List.set_cons_zero, Option.map_some, if_true, if_false]
        refine (hs R S x (hB h) hS (mg x hx).1 (by omega) (mg x hx).2).to ?_
        rintro v S' ⟨p, rfl, gp, _, _, dp⟩
        exact ⟨p, rfl, ⟨⟨gp.bd.1.mono (by omega), gp.bd.2.mono (by omega)⟩, gp.red, gp.nn, gp.le⟩, dp⟩)
    rw [e6]
    simp -implicitDefEqProofs only [EVc, Nat.reduceSub, Int.reduceLT, Int.reduceLE, Int.reduceEq, Int.reduceSub, Int.reduceAdd, Int.reduceMul, Int.reduceNeg, List.replicate, wipeE, List.replicate_zero, List.getElem?_cons_zero, List.getElem?_cons_succ, List.set_cons_succ, List.set_cons_zero, Option.map_some, if_true, if_false]
    rw [comp_map nmv (fun y => y.1.pv) ch (fun y _ => ⟨_, rfl, by simp -implicitDefEqProofs only [EVc, Nat.reduceSub, Int.reduceLT, Int.reduceLE, Int.reduceEq, Int.reduceSub, Int.reduceAdd, Int.reduceMul, Int.reduceNeg, List.replicate, wipeE, List.replicate_zero, List.getElem?_cons_zero, List.getElem?_cons_succ, List.set_cons_succ, List.set_cons_zero, Option.map_some, if_true, if_false]⟩)]
    simp -implicitDefEqProofs only [EVc, Nat.reduceSub, Int.reduceLT, Int.reduceLE, Int.reduceEq, Int.reduceSub, Int.reduceAdd, Int.reduceMul, Int.reduceNeg, List.replicate, wipeE, List.replicate_zero, List.getElem?_cons_zero, List.getElem?_cons_succ, List.set_cons_succ, List.set_cons_zero, Option.map_some, if_true, if_false]
    refine ⟨(.mk ps (ch.map (·.1)), ms), ?_, ⟨?_, by show ms.length + 1 = g; omega, mg⟩, d6⟩
    · show _ = PV.tup [(Nd.mk ps (ch.map (·.1))).pv, _]
      rw [Nd.pv_eq]
      show _ = PV.tup [.tup [.tup (ps.map ppv), .tup ((ch.map (·.1)).map Nd.pv)], _]
      rw [List.map_map]; rfl
    · have hps : PsOk g ps := ⟨by omega, p6⟩
      cases h with
      | zero =>
        refine ⟨hps, ?_⟩
        have hm0 := m0 rfl
        subst hm0
        show ch.map (·.1) = []
        rw [List.length_eq_zero_iff.mp cl]; rfl
      | succ h' =>
        refine ⟨hps, ?_, ?_, fun z hz => ?_⟩
        · show 0 < (ch.map (·.1)).length
          rw [List.length_map, cl]; exact mp (by omega)
        · show (ch.map (·.1)).length ≤ 3
          rw [List.length_map, cl]; exact m3
        · obtain ⟨y, hy, rfl⟩ := List.mem_map.mp (show z ∈ ch.map (·.1) from hz)
          obtain ⟨h'', eh, ng⟩ := cg y hy
          obtain rfl : h' = h'' := by omega
          exact ng.tree
end Py
/-! Markets as the laws draw them: they are right. -/
namespace Py
open L2

/-- what stands in a tree of a height -/
theorem tree_pre {g : Nat} : ∀ {h : Nat} {n : Nd} (p : Path), Tree g h n → ∀ x ∈ preT (p, n), ∃ h', h' ≤ h ∧ Tree g h' x.2 ∧ x.1.length = p.length + (h - h')
  | 0, n, p, t, x, hx => by
    rw [pre_kids] at hx
    rcases List.mem_cons.mp hx with rfl | hx
    · exact ⟨0, Nat.le_refl _, t, by simp⟩
    · have : kids (p, n) = [] := by unfold kids; rw [show (p, n).2.ks = [] from t.2]; rfl
      rw [this] at hx; exact nomatch hx
  | h + 1, n, p, t, x, hx => by
    rw [pre_kids] at hx
    rcases List.mem_cons.mp hx with rfl | hx
    · exact ⟨h + 1, Nat.le_refl _, t, by simp⟩
    · obtain ⟨y, hy, hx⟩ := List.mem_flatMap.mp hx
      unfold kids at hy
      obtain ⟨z, hz, rfl⟩ := List.mem_map.mp hy
      have hm : z.1 ∈ n.ks := by
        have := List.mem_zipIdx hz
        have e := this.2.2
        rw [e]
        exact List.getElem_mem _
      obtain ⟨h', h1, h2, h3⟩ := tree_pre (p ++ [z.2]) (t.2.2.2 z.1 hm) x hx
      exact ⟨h', by omega, h2, by rw [h3, List.length_append, List.length_singleton]; omega⟩
def tcount : Nat → Nat
  | 0 => 1
  | h + 1 => 1 + 3 * tcount h
theorem tree_count {g : Nat} : ∀ {h : Nat} {n : Nd} (p : Path), Tree g h n → (preT (p, n)).length ≤ tcount h
  | 0, n, p, t => by
    rw [pre_kids]
    have : kids (p, n) = [] := by unfold kids; rw [show (p, n).2.ks = [] from t.2]; rfl
    rw [this]; exact Nat.le_refl _
  | h + 1, n, p, t => by
    rw [pre_kids, List.length_cons]
    have hk : ∀ l : List (Path × Nd), (∀ y ∈ l, Tree g h y.2) → (l.flatMap preT).length ≤ l.length * tcount h := fun l => by
      induction l with
      | nil => intro _; simp
      | cons y l ih =>
        intro hl
        rw [List.flatMap_cons, List.length_append, List.length_cons, Nat.succ_mul]
        have h1 := tree_count y.1 (hl y List.mem_cons_self)
        have h2 := ih fun z hz => hl z (List.mem_cons_of_mem _ hz)
        have e : preT (y.1, y.2) = preT y := rfl
        rw [e] at h1
        omega
    have h1 := hk (kids (p, n)) fun y hy => by
      unfold kids at hy
      obtain ⟨z, hz, rfl⟩ := List.mem_map.mp hy
      have e := (List.mem_zipIdx hz).2.2
      exact t.2.2.2 z.1 (by rw [e]; exact List.getElem_mem _)
    have h2 : (kids (p, n)).length ≤ 3 := by rw [kids_len]; exact t.2.2.1
    have h3 : (kids (p, n)).length * tcount h ≤ 3 * tcount h := Nat.mul_le_mul_right _ h2
    show _ ≤ 1 + 3 * tcount h
    omega
theorem tree_end {g h : Nat} {n : Nd} (t : Tree g h n) : decide (n.ks.length = 0) = decide (h = 0) := by
  cases h with
  | zero => rw [show n.ks = [] from t.2]; rfl
  | succ h =>
    have := t.2.1
    rw [decide_eq_false (by omega), decide_eq_false (by omega)]
theorem hgt2 {h : Nat} (hh : h ≤ 2) : tcount h ≤ 13 := by
  have : h = 0 ∨ h = 1 ∨ h = 2 := by omega
  rcases this with rfl | rfl | rfl <;> decide
theorem tree_Ok {g h : Nat} {n : Nd} (t : Tree g h n) (hh : h ≤ 2) (hg : g ≤ 4) : n.Ok where
  many := by have := tree_count [] t; have := hgt2 hh; show (preT ([], n)).length ≤ 1000; omega
  deep := fun x hx => by
    obtain ⟨h', h1, h2, h3⟩ := tree_pre [] t x hx
    rw [List.length_nil] at h3
    omega
  nums := fun x hx p hp => by
    obtain ⟨h', h1, h2, h3⟩ := tree_pre [] t x hx
    have := (h2.ps.good p hp).bd
    exact ⟨this.1.mono (by decide), this.2.mono (by decide)⟩
  goods := fun x hx => by
    obtain ⟨h', h1, h2, h3⟩ := tree_pre [] t x hx
    have := h2.ps.len
    omega
theorem tree_right {g h : Nat} {n : Nd} (t : Tree g h n) : rightP (g : Int) n.ps = true := by
  unfold rightP
  rw [Bool.and_eq_true, decide_eq_true_eq, List.all_eq_true]
  refine ⟨by have := t.ps.len; omega, fun p hp => ?_⟩
  have q := t.ps.good p hp
  rw [Bool.and_eq_true, decide_eq_true_eq, decide_eq_true_eq]
  exact ⟨q.nn, cmp_le0.mpr q.le⟩
theorem tree_times {g h : Nat} {n : Nd} (t : Tree g h n) : ∀ x ∈ times n, x = (h : Int) := fun x hx => by
  obtain ⟨y, hy, rfl⟩ := List.mem_map.mp hx
  obtain ⟨hy1, hy2⟩ := List.mem_filter.mp hy
  obtain ⟨h', h1, h2, h3⟩ := tree_pre [] t y hy1
  have he : isEnd y = decide (h' = 0) := tree_end h2
  rw [he, decide_eq_true_eq] at hy2
  rw [List.length_nil] at h3
  omega
theorem tree_minmax {g h : Nat} {n : Nd} (t : Tree g h n) : minL (times n) = (h : Int) ∧ maxL (times n) = (h : Int) := by
  have hp : 0 < (times n).length := by rw [List.length_map]; exact ends_pos n
  exact ⟨tree_times t _ (minL_spec _ hp).1, tree_times t _ (maxL_spec _ hp).1⟩
theorem tree_chk {g h : Nat} {n : Nd} (t : Tree g h n) (hh : h ≤ 2) (h1 : 1 ≤ g) (hg : g ≤ 4) : chk (g : Int) n = none := by
  unfold chk
  obtain ⟨m1, m2⟩ := tree_minmax t
  have hc := tree_count [] t
  have h13 := hgt2 hh
  have e : (pre [] n).length = (preT ([], n)).length := rfl
  rw [if_neg (by omega), m1, m2, if_neg, if_neg (by omega)]
  rintro (h | h)
  · rw [← Bool.not_eq_true, List.all_eq_true] at h
    exact h fun x hx => by
      obtain ⟨h', _, h2, _⟩ := tree_pre [] t x hx
      exact tree_right h2
  · exact h rfl
/-! ### a market -/
structure MkG (g h : Nat) (n : Nd) : Prop where
  g1 : 1 ≤ g
  g4 : g ≤ 4
  h2 : h ≤ 2
  tree : Tree g h n
theorem MkG.ok {g h : Nat} {n : Nd} (m : MkG g h n) : n.Ok := tree_Ok m.tree m.h2 m.g4
theorem MkG.chk {g h : Nat} {n : Nd} (m : MkG g h n) : chk (g : Int) n = none := tree_chk m.tree m.h2 m.g1 m.g4
def LMarketOk (f : PF) : Prop := ∀ (R S : Store) (most : Int), Dr R S → 1 ≤ most → most ≤ 4 → Sat (f [.ref 0, .int most] S) (fun v S' => ∃ (g h : Nat) (n : Nd), v = mkt (g : Int) n ∧ MkG g h n ∧ (g : Int) ≤ max most 2 ∧ Dr R S') noE
theorem market_F {t nd : PF} (ht : TakeOk t) (hn : ∀ h, h ≤ 2 → LNodeOk h nd) : LMarketOk (F_law_market t nd) := fun R S most hd m1 m4 => by
  rw [A_law_market]; unfold D_law_market
  rw [dSeq_ap, Sat_flo, SatF_sq]
  generalize hfl : dAsg 2 _ _ _ = fl
  refine SatF.cut (fun ρ S1 => ∃ g : Nat, 1 ≤ g ∧ (g : Int) ≤ most ∧ Dr R S1 ∧ ρ = [.fz (.ref 0), .fz (.int most), .fz (.int (g : Int)), .un]) ?_ ?_
  · subst hfl
    simp -implicitDefEqProofs only [EVc, Nat.reduceSub, Int.reduceLT, Int.reduceLE, Int.reduceEq, Int.reduceSub, Int.reduceAdd, Int.reduceMul, Int.reduceNeg, List.replicate, wipeE, List.replicate_zero, List.getElem?_cons_zero, List.getElem?_cons_succ, List.set_cons_succ, List.set_cons_zero, Option.map_some, if_true, if_false]
    obtain ⟨r, S1, e1, r0, r5, d1⟩ := ht R S most hd (by omega) (okI_small (by omega))
    rw [e1]
    simp -implicitDefEqProofs only [EVc, Nat.reduceSub, Int.reduceLT, Int.reduceLE, Int.reduceEq, Int.reduceSub, Int.reduceAdd, Int.reduceMul, Int.reduceNeg, List.replicate, wipeE, List.replicate_zero, List.getElem?_cons_zero, List.getElem?_cons_succ, List.set_cons_succ, List.set_cons_zero, Option.map_some, if_true, if_false]
    exact ⟨(1 + r).toNat, by omega, by omega, d1, by rw [show (((1 + r).toNat : Nat) : Int) = 1 + r by omega]⟩
  rintro ρ S1 ⟨g, g1, gm, d1, rfl⟩
  dsimp only
  rw [dSeq_ap, SatF_sq]
  generalize hfl : dIfS _ _ _ _ _ = fl
  refine SatF.cut (fun ρ S1 => ∃ g : Nat, 1 ≤ g ∧ g ≤ 4 ∧ (g : Int) ≤ max most 2 ∧ Dr R S1 ∧ ρ = [.fz (.ref 0), .fz (.int most), .fz (.int (g : Int)), .un]) ?_ ?_
  · subst hfl
    simp -implicitDefEqProofs only [EVc, Nat.reduceSub, Int.reduceLT, Int.reduceLE, Int.reduceEq, Int.reduceSub, Int.reduceAdd, Int.reduceMul, Int.reduceNeg, List.replicate, wipeE, List.replicate_zero, List.getElem?_cons_zero, List.getElem?_cons_succ, List.set_cons_succ, List.set_cons_zero, Option.map_some, if_true, if_false]
    by_cases hg : (g : Int) = 1
    · simp -implicitDefEqProofs only [EVc, Nat.reduceSub, Int.reduceLT, Int.reduceLE, Int.reduceEq, Int.reduceSub, Int.reduceAdd, Int.reduceMul, Int.reduceNeg, List.replicate, wipeE, List.replicate_zero, List.getElem?_cons_zero, List.getElem?_cons_succ, List.set_cons_succ, List.set_cons_zero, Option.map_some, if_true, if_false, hg]
      obtain ⟨r, S2, e2, r0, r5, d2⟩ := ht R S1 3 d1 (by decide) (by decide +kernel)
      rw [e2]
      simp -implicitDefEqProofs only [EVc, Nat.reduceSub, Int.reduceLT, Int.reduceLE, Int.reduceEq, Int.reduceSub, Int.reduceAdd, Int.reduceMul, Int.reduceNeg, List.replicate, wipeE, List.replicate_zero, List.getElem?_cons_zero, List.getElem?_cons_succ, List.set_cons_succ, List.set_cons_zero, Option.map_some, if_true, if_false]
      by_cases hr : 0 < r
      · simp -implicitDefEqProofs only [EVc, Nat.reduceSub, Int.reduceLT, Int.reduceLE, Int.reduceEq, Int.reduceSub, Int.reduceAdd, Int.reduceMul, Int.reduceNeg, List.replicate, wipeE, List.replicate_zero, List.getElem?_cons_zero, List.getElem?_cons_succ, List.set_cons_succ, List.set_cons_zero, Option.map_some, if_true, if_false, hr]
        exact ⟨2, by decide, by decide, by omega, d2, rfl⟩
      · simp -implicitDefEqProofs only [EVc, Nat.reduceSub, Int.reduceLT, Int.reduceLE, Int.reduceEq, Int.reduceSub, Int.reduceAdd, Int.reduceMul, Int.reduceNeg, List.replicate, wipeE, List.replicate_zero, List.getElem?_cons_zero, List.getElem?_cons_succ, List.set_cons_succ, List.set_cons_zero, Option.map_some, if_true, if_false, hr]
        exact ⟨1, by decide, by decide, by omega, d2, rfl⟩
    · simp -implicitDefEqProofs only [EVc, Nat.reduceSub, Int.reduceLT, Int.reduceLE, Int.reduceEq, Int.reduceSub, Int.reduceAdd, Int.reduceMul, Int.reduceNeg, List.replicate, wipeE, List.replicate_zero, List.getElem?_cons_zero, List.getElem?_cons_succ, List.set_cons_succ, List.set_cons_zero, Option.map_some, if_true, if_false, hg]
      exact ⟨g, g1, by omega, by omega, d1, rfl⟩
  rintro ρ S2 ⟨g, g1, g4, gm, d2, rfl⟩
  simp -implicitDefEqProofs only [EVc, Nat.reduceSub, Int.reduceLT, Int.reduceLE, Int.reduceEq, Int.reduceSub, Int.reduceAdd, Int.reduceMul, Int.reduceNeg, List.replicate, wipeE, List.replicate_zero, List.getElem?_cons_zero, List.getElem?_cons_succ, List.set_cons_succ, List.set_cons_zero, Option.map_some, if_true, if_false]
  obtain ⟨r, S3, e3, r0, r5, d3⟩ := ht R S2 5 d2 (by decide) (by decide +kernel)
  rw [e3]
  simp -implicitDefEqProofs only [EVc, Nat.reduceSub, Int.reduceLT, Int.reduceLE, Int.reduceEq, Int.reduceSub, Int.reduceAdd, Int.reduceMul, Int.reduceNeg, List.replicate, wipeE, List.replicate_zero, List.getElem?_cons_zero, List.getElem?_cons_succ, List.set_cons_succ, List.set_cons_zero, Option.map_some, if_true, if_false]
  obtain ⟨q, S4, e4, q0, q3, d4⟩ := ht R S3 3 d3 (by decide) (by decide +kernel)
  rw [e4]
  simp -implicitDefEqProofs only [EVc, Nat.reduceSub, Int.reduceLT, Int.reduceLE, Int.reduceEq, Int.reduceSub, Int.reduceAdd, Int.reduceMul, Int.reduceNeg, List.replicate, wipeE, List.replicate_zero, List.getElem?_cons_zero, List.getElem?_cons_succ, List.set_cons_succ, List.set_cons_zero, Option.map_some, if_true, if_false]
  refine (hn q.toNat (by omega) R S4 g 0 q (decide (r = 1)) d4 g1 g4 (by omega)).to ?_
  rintro v S5 ⟨y, rfl, gy, dy⟩
  simp -implicitDefEqProofs only [EVc, Nat.reduceSub, Int.reduceLT, Int.reduceLE, Int.reduceEq, Int.reduceSub, Int.reduceAdd, Int.reduceMul, Int.reduceNeg, List.replicate, wipeE, List.replicate_zero, List.getElem?_cons_zero, List.getElem?_cons_succ, List.set_cons_succ, List.set_cons_zero, Option.map_some, if_true, if_false]
  exact ⟨g, q.toNat, y.1, rfl, ⟨g1, g4, by omega, gy.tree⟩, gm, dy⟩
end Py
/-! Values and conditions. -/
namespace Py
open L2

/-! ### words -/
theorem ofStr_eq {a b : String} : (PySem.Str.ofString a = PySem.Str.ofString b) = (a = b) := by
  refine propext ⟨fun h => ?_, fun h => by rw [h]⟩
  rw [PySem.Str.ofString_eq_toList, PySem.Str.ofString_eq_toList] at h
  have h1 : (a.toList.map Char.toNat).toArray = (b.toList.map Char.toNat).toArray := by injection h
  have h2 : a.toList.map Char.toNat = b.toList.map Char.toNat := by simpa using h1
  have inj : ∀ (l m : List Char), l.map Char.toNat = m.map Char.toNat → l = m := fun l => by
    induction l with
    | nil => intro m h; cases m with
      | nil => rfl
      | cons _ _ => cases h
    | cons c l ih =>
      intro m h
      cases m with
      | nil => cases h
      | cons d m =>
        rw [List.map_cons, List.map_cons] at h
        obtain ⟨e1, e2⟩ := List.cons.inj h
        rw [ih m e2, Char.toNat_inj.mp e1]
  exact String.toList_inj.mp (inj _ _ h2)
section
variable {S : Store} {x y a b : PySem.Str}
theorem l2_eqS : lift2 gEq (.str x) (.str y) S = .ok (.bl (decide (x = y))) S := rfl
theorem l2_neS : lift2 gNe (.str x) (.str y) S = .ok (.bl (!decide (x = y))) S := rfl
theorem l2_inS2 (hx : shp (.str x) = true) (ha : shp (.str a) = true) (hb : shp (.str b) = true) : lift2 gIn (.str x) (.tup [.str a, .str b]) S = .ok (.bl (decide (a = x) || decide (b = x))) S := by
  show (match (if (shp (.str x) && decide (dep (.str x) ≤ 64) && shps [.str a, .str b]) = true then some ([PV.str a, .str b].any fun z => peqv z (.str x)) else none).map PV.bl with | some z => Res.ok z S | none => .bad) = _
  have e : (shp (.str x) && decide (dep (.str x) ≤ 64) && shps [.str a, .str b]) = true := by
    show (shp (.str x) && true && (shp (.str a) && (shp (.str b) && true))) = true
    rw [hx, ha, hb]; rfl
  rw [if_pos e]
  show Res.ok (PV.bl ((decide (a = x)) || ((decide (b = x)) || false))) S = _
  rw [Bool.or_false]
end
/-! ### parts -/
def Pt.tag : Pt → PySem.Str
  | .price w _ => w.s
  | .num _ _ => "number"
  | .nothing => "nothing"
  | .time w _ _ => w.s
  | .n1 w _ => w.s
  | .n2 w _ _ => w.s
theorem shp_buy : shp (.str (PySem.Str.ofString "buy")) = true := by decide +kernel
theorem shp_sell : shp (.str (PySem.Str.ofString "sell")) = true := by decide +kernel
theorem shp_tag (p : Pt) : shp (.str p.tag) = true := by
  cases p with
  | price w g => show shp (.str w.s) = true; cases w <;> decide +kernel
  | num _ _ => show shp (.str (PySem.Str.ofString "number")) = true; decide +kernel
  | nothing => show shp (.str (PySem.Str.ofString "nothing")) = true; decide +kernel
  | time w _ _ => show shp (.str w.s) = true; cases w <;> decide +kernel
  | n1 w _ => show shp (.str w.s) = true; cases w <;> decide +kernel
  | n2 w _ _ => show shp (.str w.s) = true; cases w <;> decide +kernel
section
variable {S : Store}
theorem pt0 (p : Pt) : lift2 gIx p.pv (.int 0) S = .ok (.str p.tag) S := by cases p <;> rfl
theorem pt1_2 {w : W2} {p q : Pt} : lift2 gIx (Pt.n2 w p q).pv (.int 1) S = .ok p.pv S := rfl
theorem pt2_2 {w : W2} {p q : Pt} : lift2 gIx (Pt.n2 w p q).pv (.int 2) S = .ok q.pv S := rfl
theorem pt1_1 {w : W1} {p : Pt} : lift2 gIx (Pt.n1 w p).pv (.int 1) S = .ok p.pv S := rfl
theorem pt1_p {w : W0} {g : Int} : lift2 gIx (Pt.price w g).pv (.int 1) S = .ok (.int g) S := rfl
theorem pt1_n {n d : Int} : lift2 gIx (Pt.num n d).pv (.int 1) S = .ok (⟨n, d⟩ : Fr).pv S := rfl
theorem pt1_t {w : WT} {t : Int} {p : Pt} : lift2 gIx (Pt.time w t p).pv (.int 1) S = .ok (.int t) S := rfl
theorem pt2_t {w : WT} {t : Int} {p : Pt} : lift2 gIx (Pt.time w t p).pv (.int 2) S = .ok p.pv S := rfl
end
/-! ### values -/
/-- a value over g goods, its numbers below 2 ^ k -/
def Pt.vOk (g : Int) (k : Nat) : Pt → Prop
  | .price .buy x => 0 ≤ x ∧ x < g
  | .price .sell x => 0 ≤ x ∧ x < g
  | .num n d => (⟨n, d⟩ : Fr).bd k ∧ (⟨n, d⟩ : Fr).red
  | .n2 .plus p q => p.vOk g k ∧ q.vOk g k
  | .n2 .minus p q => p.vOk g k ∧ q.vOk g k
  | .n2 .times p q => p.vOk g k ∧ q.vOk g k
  | .n2 .least p q => p.vOk g k ∧ q.vOk g k
  | .n2 .greatest p q => p.vOk g k ∧ q.vOk g k
  | _ => False
def Pt.cOk (g : Int) (k : Nat) : Pt → Prop
  | .n2 .less p q => p.vOk g k ∧ q.vOk g k
  | .n2 .same p q => p.vOk g k ∧ q.vOk g k
  | .n1 .not_ p => p.cOk g k
  | .n2 .and_ p q => p.cOk g k ∧ q.cOk g k
  | _ => False
theorem smallN_bd {n d : Int} {k : Nat} (h : smallN n d) (hk : 3 ≤ k) : (⟨n, d⟩ : Fr).bd k ∧ (⟨n, d⟩ : Fr).red :=
  ⟨(⟨h.1, show n.natAbs < 2 ^ 3 by have := h.2.2; omega, show d.natAbs < 2 ^ 3 by have := h.1; have := h.2.1; omega⟩ : (⟨n, d⟩ : Fr).bd 3).mono hk, h.2.2.2.2⟩
theorem isV_vOk {g : Int} {k : Nat} (hk : 3 ≤ k) : ∀ {p : Pt}, p.isV g → p.vOk g k
  | .price .buy _, h => h
  | .price .sell _, h => h
  | .num _ _, h => smallN_bd h hk
  | .n2 .plus _ _, h => ⟨isV_vOk hk h.1, isV_vOk hk h.2⟩
  | .n2 .minus _ _, h => ⟨isV_vOk hk h.1, isV_vOk hk h.2⟩
  | .n2 .times _ _, h => ⟨isV_vOk hk h.1, isV_vOk hk h.2⟩
  | .n2 .least _ _, h => ⟨isV_vOk hk h.1, isV_vOk hk h.2⟩
  | .n2 .greatest _ _, h => ⟨isV_vOk hk h.1, isV_vOk hk h.2⟩
theorem isC_cOk {g : Int} {k : Nat} (hk : 3 ≤ k) : ∀ {p : Pt}, p.isC g → p.cOk g k
  | .n2 .less _ _, h => ⟨isV_vOk hk h.1, isV_vOk hk h.2⟩
  | .n2 .same _ _, h => ⟨isV_vOk hk h.1, isV_vOk hk h.2⟩
  | .n1 .not_ p, h => isC_cOk (p := p) hk h
  | .n2 .and_ _ _, h => ⟨isC_cOk hk h.1, isC_cOk hk h.2⟩
/-- bits of a value of some height -/
def vb (k : Nat) : Nat → Nat
  | 0 => k
  | 1 => k
  | h + 2 => 2 * vb k (h + 1) + 1
theorem vb_mono (k : Nat) : ∀ {a b : Nat}, a ≤ b → vb k a ≤ vb k b := by
  have step : ∀ a, vb k a ≤ vb k (a + 1) := fun a => by
    cases a with
    | zero => exact Nat.le_refl _
    | succ a => show vb k (a + 1) ≤ 2 * vb k (a + 1) + 1; omega
  intro a b h
  induction b with
  | zero => have : a = 0 := by omega
            subst this; exact Nat.le_refl _
  | succ b ih =>
    by_cases e : a = b + 1
    · subst e; exact Nat.le_refl _
    · exact Nat.le_trans (ih (by omega)) (step b)
theorem vb_succ (k h : Nat) (h1 : 1 ≤ h) : vb k (h + 1) = 2 * vb k h + 1 := by
  cases h with
  | zero => omega
  | succ h => rfl
def Fr.mn (a b : Fr) : Fr := if a.cmp b ≤ 0 then a else b
def Fr.mx (a b : Fr) : Fr := if 0 ≤ a.cmp b then a else b
def wor (ps : List PP) : Pt → Fr
  | .price .buy x => (ps.getD x.toNat (Fr.zero, Fr.zero)).1
  | .price .sell x => (ps.getD x.toNat (Fr.zero, Fr.zero)).2
  | .num n d => ⟨n, d⟩
  | .n2 .plus p q => (wor ps p).add (wor ps q)
  | .n2 .minus p q => (wor ps p).sub (wor ps q)
  | .n2 .times p q => (wor ps p).mul (wor ps q)
  | .n2 .least p q => (wor ps p).mn (wor ps q)
  | .n2 .greatest p q => (wor ps p).mx (wor ps q)
  | _ => Fr.zero
abbrev PsG (k : Nat) (ps : List PP) : Prop := ∀ p ∈ ps, bdP k p ∧ p.1.red ∧ p.2.red
theorem wor_ok {ps : List PP} {k : Nat} (hp : PsG k ps) : ∀ {p : Pt}, p.vOk ps.length k → (wor ps p).bd (vb k p.hgt) ∧ (wor ps p).red
  | .price .buy x, h => by
    have h : 0 ≤ x ∧ x < ps.length := h
    have hl : x.toNat < ps.length := by omega
    have := hp _ (List.getElem_mem hl)
    unfold wor
    rw [List.getD_eq_getElem?_getD, List.getElem?_eq_getElem hl]
    exact ⟨this.1.1, this.2.1⟩
  | .price .sell x, h => by
    have h : 0 ≤ x ∧ x < ps.length := h
    have hl : x.toNat < ps.length := by omega
    have := hp _ (List.getElem_mem hl)
    unfold wor
    rw [List.getD_eq_getElem?_getD, List.getElem?_eq_getElem hl]
    exact ⟨this.1.2, this.2.2⟩
  | .num n d, h => h
  | .n2 .plus p q, h => by
    obtain ⟨a1, a2⟩ := wor_ok hp (p := p) h.1
    obtain ⟨b1, b2⟩ := wor_ok hp (p := q) h.2
    have e : (Pt.n2 .plus p q).hgt = max p.hgt q.hgt + 1 := rfl
    rw [e, vb_succ _ _ (by have := hgt_pos p; omega)]
    have m1 := vb_mono k (Nat.le_max_left p.hgt q.hgt)
    have m2 := vb_mono k (Nat.le_max_right p.hgt q.hgt)
    exact ⟨(a1.add b1).mono (by omega), fmk_red (Fr.dd a1 b1)⟩
  | .n2 .minus p q, h => by
    obtain ⟨a1, a2⟩ := wor_ok hp (p := p) h.1
    obtain ⟨b1, b2⟩ := wor_ok hp (p := q) h.2
    have e : (Pt.n2 .minus p q).hgt = max p.hgt q.hgt + 1 := rfl
    rw [e, vb_succ _ _ (by have := hgt_pos p; omega)]
    have m1 := vb_mono k (Nat.le_max_left p.hgt q.hgt)
    have m2 := vb_mono k (Nat.le_max_right p.hgt q.hgt)
    exact ⟨(a1.sub b1).mono (by omega), fmk_red (Fr.dd a1 b1)⟩
  | .n2 .times p q, h => by
    obtain ⟨a1, a2⟩ := wor_ok hp (p := p) h.1
    obtain ⟨b1, b2⟩ := wor_ok hp (p := q) h.2
    have e : (Pt.n2 .times p q).hgt = max p.hgt q.hgt + 1 := rfl
    rw [e, vb_succ _ _ (by have := hgt_pos p; omega)]
    have m1 := vb_mono k (Nat.le_max_left p.hgt q.hgt)
    have m2 := vb_mono k (Nat.le_max_right p.hgt q.hgt)
    exact ⟨(a1.mul b1).mono (by omega), fmk_red (Fr.dd a1 b1)⟩
  | .n2 .least p q, h => by
    obtain ⟨a1, a2⟩ := wor_ok hp (p := p) h.1
    obtain ⟨b1, b2⟩ := wor_ok hp (p := q) h.2
    have e : (Pt.n2 .least p q).hgt = max p.hgt q.hgt + 1 := rfl
    have m1 := vb_mono k (show p.hgt ≤ max p.hgt q.hgt + 1 by omega)
    have m2 := vb_mono k (show q.hgt ≤ max p.hgt q.hgt + 1 by omega)
    rw [e]
    unfold wor Fr.mn
    split
    · exact ⟨a1.mono m1, a2⟩
    · exact ⟨b1.mono m2, b2⟩
  | .n2 .greatest p q, h => by
    obtain ⟨a1, a2⟩ := wor_ok hp (p := p) h.1
    obtain ⟨b1, b2⟩ := wor_ok hp (p := q) h.2
    have e : (Pt.n2 .greatest p q).hgt = max p.hgt q.hgt + 1 := rfl
    have m1 := vb_mono k (show p.hgt ≤ max p.hgt q.hgt + 1 by omega)
    have m2 := vb_mono k (show q.hgt ≤ max p.hgt q.hgt + 1 by omega)
    rw [e]
    unfold wor Fr.mx
    split
    · exact ⟨a1.mono m1, a2⟩
    · exact ⟨b1.mono m2, b2⟩
instance : DecidableEq Fr := fun a b => by
  cases a; cases b
  exact decidable_of_iff (_ ∧ _) (Fr.mk.injEq ..).to_iff.symm
def so (ps : List PP) : Pt → Bool
  | .n2 .less p q => (wor ps p).lt (wor ps q)
  | .n2 .same p q => decide (wor ps p = wor ps q)
  | .n1 .not_ p => !so ps p
  | .n2 .and_ p q => so ps p && so ps q
  | _ => false
/-! ### the program's, the law's -/
def WorOk (n : Nat) (f : PF) : Prop := ∀ (ps : List PP) (k : Nat) (p : Pt) S, PsG k ps → p.vOk ps.length k → vb k p.hgt ≤ 3000 → p.hgt ≤ n → f [.tup (ps.map ppv), p.pv] S = .ok (wor ps p).pv S
def SoOk (n : Nat) (f : PF) : Prop := ∀ (ps : List PP) (k : Nat) (p : Pt) S, PsG k ps → p.cOk ps.length k → vb k (p.hgt - 1) ≤ 3000 → p.hgt ≤ n → f [.tup (ps.map ppv), p.pv] S = .ok (.bl (so ps p)) S
theorem ixp {ps : List PP} {x : Int} {S : Store} (h0 : 0 ≤ x) (h : x < ps.length) : lift2 gIx (.tup (ps.map ppv)) (.int x) S = .ok (ppv (ps.getD x.toNat (Fr.zero, Fr.zero))) S := ixTi h0 (by
  have hl : x.toNat < ps.length := by omega
  rw [List.getElem?_map, List.getD_eq_getElem?_getD, List.getElem?_eq_getElem hl]; rfl)
theorem cmp_neg {a b : Fr} : (a.cmp b < 0) ↔ a.lt b = true := by
  unfold Fr.cmp Fr.lt
  rw [decide_eq_true_eq]
  split
  · exact ⟨fun _ => by assumption, fun _ => by decide⟩
  · split
    · exact ⟨fun h => absurd h (by decide), fun h => absurd h (by assumption)⟩
    · exact ⟨fun h => absurd h (by decide), fun h => absurd h (by assumption)⟩
theorem cmp_zero {a b : Fr} : (a.cmp b = 0) ↔ a.n * b.d = b.n * a.d := by
  unfold Fr.cmp
  split
  · exact ⟨fun h => absurd h (by decide), fun h => by omega⟩
  · split
    · exact ⟨fun h => absurd h (by decide), fun h => by omega⟩
    · exact ⟨fun _ => by omega, fun _ => rfl⟩
theorem cmp_nn {a b : Fr} : (0 ≤ a.cmp b) ↔ a.lt b = false := by
  have := cmp_neg (a := a) (b := b)
  rw [← Bool.not_eq_true, ← this]; omega
theorem mn_less {a b : Fr} : (if b.lt a = true then b else a) = a.mn b := by
  unfold Fr.mn
  by_cases h : b.lt a = true
  · rw [if_pos h, if_neg]
    rw [cmp_le0]
    unfold Fr.le Fr.lt at *
    rw [decide_eq_true_eq] at h
    omega
  · rw [if_neg h, if_pos]
    rw [cmp_le0]
    unfold Fr.le Fr.lt at *
    rw [decide_eq_true_eq] at h
    omega
theorem mx_less {a b : Fr} : (if a.lt b = true then b else a) = a.mx b := by
  unfold Fr.mx
  by_cases h : a.lt b = true
  · rw [if_pos h, if_neg (by rw [cmp_nn, h]; simp)]
  · have h : a.lt b = false := by simpa using h
    rw [if_neg (by rw [h]; simp), if_pos (cmp_nn.mpr h)]
section
variable {gn ga gs gm gc gl gi gx : PF} {n : Nat}
theorem two_vb {w : W2} {p q : Pt} {k n : Nat} (hb : vb k (Pt.n2 w p q).hgt ≤ 3000) (hn : (Pt.n2 w p q).hgt ≤ n + 1) : vb k p.hgt ≤ 3000 ∧ vb k q.hgt ≤ 3000 ∧ p.hgt ≤ n ∧ q.hgt ≤ n := by
  have e : (Pt.n2 w p q).hgt = max p.hgt q.hgt + 1 := rfl
  rw [e] at hb hn
  have m1 := vb_mono k (show p.hgt ≤ max p.hgt q.hgt + 1 by omega)
  have m2 := vb_mono k (show q.hgt ≤ max p.hgt q.hgt + 1 by omega)
  exact ⟨by omega, by omega, by omega, by omega⟩
theorem number_step (hg : WorOk n gn) (ha : FAdd ga) (hs : FSub gs) (hm : FMul gm) (hc : FCmp gc) : WorOk (n + 1) (F_number_at gn ga gs gm gc) := fun ps k p S hp hv hb hn => by
  refine Sat.eq ?_
  rw [A_number_at]; unfold D_number_at
  match p, hv, hb, hn with
  | .num a d, hv, hb, hn =>
    simp -implicitDefEqProofs only [EVc, Nat.reduceSub, Int.reduceLT, Int.reduceLE, Int.reduceEq, Int.reduceSub, Int.reduceAdd, Int.reduceMul, Int.reduceNeg, List.replicate, wipeE, List.replicate_zero, List.getElem?_cons_zero, List.getElem?_cons_succ, List.set_cons_succ, List.set_cons_zero, Option.map_some, if_true, if_false, pt0, pt1_n, Pt.tag, l2_eqS, ofStr_eq, String.reduceEq]
    (try first | trivial | exact ⟨rfl, rfl⟩ | exact ⟨rfl, trivial⟩ | rfl)
  | .price .buy x, hv, hb, hn =>
    simp -implicitDefEqProofs only [EVc, Nat.reduceSub, Int.reduceLT, Int.reduceLE, Int.reduceEq, Int.reduceSub, Int.reduceAdd, Int.reduceMul, Int.reduceNeg, List.replicate, wipeE, List.replicate_zero, List.getElem?_cons_zero, List.getElem?_cons_succ, List.set_cons_succ, List.set_cons_zero, Option.map_some, if_true, if_false, pt0, pt1_p, Pt.tag, W0.s, l2_eqS, ofStr_eq, String.reduceEq]
    rw [ixp hv.1 hv.2]
    simp -implicitDefEqProofs only [EVc, Nat.reduceSub, Int.reduceLT, Int.reduceLE, Int.reduceEq, Int.reduceSub, Int.reduceAdd, Int.reduceMul, Int.reduceNeg, List.replicate, wipeE, List.replicate_zero, List.getElem?_cons_zero, List.getElem?_cons_succ, List.set_cons_succ, List.set_cons_zero, Option.map_some, if_true, if_false]
    (try first | trivial | exact ⟨rfl, rfl⟩ | exact ⟨rfl, trivial⟩ | rfl)
  | .price .sell x, hv, hb, hn =>
    simp -implicitDefEqProofs only [EVc, Nat.reduceSub, Int.reduceLT, Int.reduceLE, Int.reduceEq, Int.reduceSub, Int.reduceAdd, Int.reduceMul, Int.reduceNeg, List.replicate, wipeE, List.replicate_zero, List.getElem?_cons_zero, List.getElem?_cons_succ, List.set_cons_succ, List.set_cons_zero, Option.map_some, if_true, if_false, pt0, pt1_p, Pt.tag, W0.s, l2_eqS, ofStr_eq, String.reduceEq]
    rw [ixp hv.1 hv.2]
    simp -implicitDefEqProofs only [EVc, Nat.reduceSub, Int.reduceLT, Int.reduceLE, Int.reduceEq, Int.reduceSub, Int.reduceAdd, Int.reduceMul, Int.reduceNeg, List.replicate, wipeE, List.replicate_zero, List.getElem?_cons_zero, List.getElem?_cons_succ, List.set_cons_succ, List.set_cons_zero, Option.map_some, if_true, if_false]
    (try first | trivial | exact ⟨rfl, rfl⟩ | exact ⟨rfl, trivial⟩ | rfl)
  | .n2 .plus a b, hv, hb, hn =>
    obtain ⟨b1, b2, n1, n2⟩ := two_vb hb hn
    have wa := (wor_ok hp hv.1).1.mono b1
    have wb := (wor_ok hp hv.2).1.mono b2
    simp -implicitDefEqProofs only [EVc, Nat.reduceSub, Int.reduceLT, Int.reduceLE, Int.reduceEq, Int.reduceSub, Int.reduceAdd, Int.reduceMul, Int.reduceNeg, List.replicate, wipeE, List.replicate_zero, List.getElem?_cons_zero, List.getElem?_cons_succ, List.set_cons_succ, List.set_cons_zero, Option.map_some, if_true, if_false, pt0, pt1_2, pt2_2, Pt.tag, W2.s, l2_eqS, ofStr_eq, String.reduceEq, hg ps k a S hp hv.1 b1 n1, hg ps k b S hp hv.2 b2 n2]
    rw [ha _ _ _ wa wb]
    (try first | trivial | exact ⟨rfl, rfl⟩ | exact ⟨rfl, trivial⟩ | rfl)
  | .n2 .minus a b, hv, hb, hn =>
    obtain ⟨b1, b2, n1, n2⟩ := two_vb hb hn
    have wa := (wor_ok hp hv.1).1.mono b1
    have wb := (wor_ok hp hv.2).1.mono b2
    simp -implicitDefEqProofs only [EVc, Nat.reduceSub, Int.reduceLT, Int.reduceLE, Int.reduceEq, Int.reduceSub, Int.reduceAdd, Int.reduceMul, Int.reduceNeg, List.replicate, wipeE, List.replicate_zero, List.getElem?_cons_zero, List.getElem?_cons_succ, List.set_cons_succ, List.set_cons_zero, Option.map_some, if_true, if_false, pt0, pt1_2, pt2_2, Pt.tag, W2.s, l2_eqS, ofStr_eq, String.reduceEq, hg ps k a S hp hv.1 b1 n1, hg ps k b S hp hv.2 b2 n2]
    rw [hs _ _ _ wa wb]
    (try first | trivial | exact ⟨rfl, rfl⟩ | exact ⟨rfl, trivial⟩ | rfl)
  | .n2 .times a b, hv, hb, hn =>
    obtain ⟨b1, b2, n1, n2⟩ := two_vb hb hn
    have wa := (wor_ok hp hv.1).1.mono b1
    have wb := (wor_ok hp hv.2).1.mono b2
    simp -implicitDefEqProofs only [EVc, Nat.reduceSub, Int.reduceLT, Int.reduceLE, Int.reduceEq, Int.reduceSub, Int.reduceAdd, Int.reduceMul, Int.reduceNeg, List.replicate, wipeE, List.replicate_zero, List.getElem?_cons_zero, List.getElem?_cons_succ, List.set_cons_succ, List.set_cons_zero, Option.map_some, if_true, if_false, pt0, pt1_2, pt2_2, Pt.tag, W2.s, l2_eqS, ofStr_eq, String.reduceEq, hg ps k a S hp hv.1 b1 n1, hg ps k b S hp hv.2 b2 n2]
    rw [hm _ _ _ wa wb]
    (try first | trivial | exact ⟨rfl, rfl⟩ | exact ⟨rfl, trivial⟩ | rfl)
  | .n2 .least a b, hv, hb, hn =>
    obtain ⟨b1, b2, n1, n2⟩ := two_vb hb hn
    have wa := (wor_ok hp hv.1).1.mono b1
    have wb := (wor_ok hp hv.2).1.mono b2
    simp -implicitDefEqProofs only [EVc, Nat.reduceSub, Int.reduceLT, Int.reduceLE, Int.reduceEq, Int.reduceSub, Int.reduceAdd, Int.reduceMul, Int.reduceNeg, List.replicate, wipeE, List.replicate_zero, List.getElem?_cons_zero, List.getElem?_cons_succ, List.set_cons_succ, List.set_cons_zero, Option.map_some, if_true, if_false, pt0, pt1_2, pt2_2, Pt.tag, W2.s, l2_eqS, ofStr_eq, String.reduceEq, hg ps k a S hp hv.1 b1 n1, hg ps k b S hp hv.2 b2 n2]
    rw [hc _ _ _ wa wb]
    simp -implicitDefEqProofs only [EVc, Nat.reduceSub, Int.reduceLT, Int.reduceLE, Int.reduceEq, Int.reduceSub, Int.reduceAdd, Int.reduceMul, Int.reduceNeg, List.replicate, wipeE, List.replicate_zero, List.getElem?_cons_zero, List.getElem?_cons_succ, List.set_cons_succ, List.set_cons_zero, Option.map_some, if_true, if_false, wor, Fr.mn]
    by_cases h : (wor ps a).cmp (wor ps b) ≤ 0
    · rw [if_pos h, if_pos h]; (try first | trivial | exact ⟨rfl, rfl⟩ | exact ⟨rfl, trivial⟩ | rfl)
    · rw [if_neg h, if_neg h]; (try first | trivial | exact ⟨rfl, rfl⟩ | exact ⟨rfl, trivial⟩ | rfl)
  | .n2 .greatest a b, hv, hb, hn =>
    obtain ⟨b1, b2, n1, n2⟩ := two_vb hb hn
    have wa := (wor_ok hp hv.1).1.mono b1
    have wb := (wor_ok hp hv.2).1.mono b2
    simp -implicitDefEqProofs only [EVc, Nat.reduceSub, Int.reduceLT, Int.reduceLE, Int.reduceEq, Int.reduceSub, Int.reduceAdd, Int.reduceMul, Int.reduceNeg, List.replicate, wipeE, List.replicate_zero, List.getElem?_cons_zero, List.getElem?_cons_succ, List.set_cons_succ, List.set_cons_zero, Option.map_some, if_true, if_false, pt0, pt1_2, pt2_2, Pt.tag, W2.s, l2_eqS, ofStr_eq, String.reduceEq, hg ps k a S hp hv.1 b1 n1, hg ps k b S hp hv.2 b2 n2]
    rw [hc _ _ _ wa wb]
    simp -implicitDefEqProofs only [EVc, Nat.reduceSub, Int.reduceLT, Int.reduceLE, Int.reduceEq, Int.reduceSub, Int.reduceAdd, Int.reduceMul, Int.reduceNeg, List.replicate, wipeE, List.replicate_zero, List.getElem?_cons_zero, List.getElem?_cons_succ, List.set_cons_succ, List.set_cons_zero, Option.map_some, if_true, if_false, wor, Fr.mx]
    by_cases h : 0 ≤ (wor ps a).cmp (wor ps b)
    · rw [if_pos h, if_pos h]; (try first | trivial | exact ⟨rfl, rfl⟩ | exact ⟨rfl, trivial⟩ | rfl)
    · rw [if_neg h, if_neg h]; (try first | trivial | exact ⟨rfl, rfl⟩ | exact ⟨rfl, trivial⟩ | rfl)
theorem lmin_F (hl : FLess gl) (a b : Fr) (S : Store) (ha : a.bd 3000) (hb : b.bd 3000) : F_law_min gl [a.pv, b.pv] S = .ok (a.mn b).pv S := by
  rw [A_law_min]; unfold D_law_min
  simp -implicitDefEqProofs only [EVc, Nat.reduceSub, Int.reduceLT, Int.reduceLE, Int.reduceEq, Int.reduceSub, Int.reduceAdd, Int.reduceMul, Int.reduceNeg, List.replicate, wipeE, List.replicate_zero, List.getElem?_cons_zero, List.getElem?_cons_succ, List.set_cons_succ, List.set_cons_zero, Option.map_some, if_true, if_false]
  rw [hl _ _ _ hb ha, ← mn_less]
  cases b.lt a <;> simp -implicitDefEqProofs only [EVc, Nat.reduceSub, Int.reduceLT, Int.reduceLE, Int.reduceEq, Int.reduceSub, Int.reduceAdd, Int.reduceMul, Int.reduceNeg, List.replicate, wipeE, List.replicate_zero, List.getElem?_cons_zero, List.getElem?_cons_succ, List.set_cons_succ, List.set_cons_zero, Option.map_some, if_true, if_false] <;> rfl
theorem lmax_F (hl : FLess gl) (a b : Fr) (S : Store) (ha : a.bd 3000) (hb : b.bd 3000) : F_law_max gl [a.pv, b.pv] S = .ok (a.mx b).pv S := by
  rw [A_law_max]; unfold D_law_max
  simp -implicitDefEqProofs only [EVc, Nat.reduceSub, Int.reduceLT, Int.reduceLE, Int.reduceEq, Int.reduceSub, Int.reduceAdd, Int.reduceMul, Int.reduceNeg, List.replicate, wipeE, List.replicate_zero, List.getElem?_cons_zero, List.getElem?_cons_succ, List.set_cons_succ, List.set_cons_zero, Option.map_some, if_true, if_false]
  rw [hl _ _ _ ha hb, ← mx_less]
  cases a.lt b <;> simp -implicitDefEqProofs only [EVc, Nat.reduceSub, Int.reduceLT, Int.reduceLE, Int.reduceEq, Int.reduceSub, Int.reduceAdd, Int.reduceMul, Int.reduceNeg, List.replicate, wipeE, List.replicate_zero, List.getElem?_cons_zero, List.getElem?_cons_succ, List.set_cons_succ, List.set_cons_zero, Option.map_some, if_true, if_false] <;> rfl
abbrev FMin (f : PF) : Prop := ∀ (a b : Fr) S, a.bd 3000 → b.bd 3000 → f [a.pv, b.pv] S = .ok (a.mn b).pv S
abbrev FMax (f : PF) : Prop := ∀ (a b : Fr) S, a.bd 3000 → b.bd 3000 → f [a.pv, b.pv] S = .ok (a.mx b).pv S
theorem worth_step (hg : WorOk n gn) (ha : FAdd ga) (hs : FSub gs) (hm : FMul gm) (hi : FMin gi) (hx : FMax gx) : WorOk (n + 1) (F_law_worth gn ga gs gm gi gx) := fun ps k p S hp hv hb hn => by
  refine Sat.eq ?_
  rw [A_law_worth]; unfold D_law_worth
  have ins : lift2 gIn (.str p.tag) (.tup [.str (PySem.Str.ofString "buy"), .str (PySem.Str.ofString "sell")]) S = .ok (.bl (decide (PySem.Str.ofString "buy" = p.tag) || decide (PySem.Str.ofString "sell" = p.tag))) S := l2_inS2 (shp_tag p) shp_buy shp_sell
  match p, hv, hb, hn, ins with
  | .num a d, hv, hb, hn, ins =>
    simp -implicitDefEqProofs only [EVc, Nat.reduceSub, Int.reduceLT, Int.reduceLE, Int.reduceEq, Int.reduceSub, Int.reduceAdd, Int.reduceMul, Int.reduceNeg, List.replicate, wipeE, List.replicate_zero, List.getElem?_cons_zero, List.getElem?_cons_succ, List.set_cons_succ, List.set_cons_zero, Option.map_some, if_true, if_false, pt0, pt1_n, Pt.tag, l2_eqS, ofStr_eq, String.reduceEq]
    (try first | trivial | exact ⟨rfl, rfl⟩ | exact ⟨rfl, trivial⟩ | rfl)
  | .price .buy x, hv, hb, hn, ins =>
    simp only [Pt.tag, W0.s, ofStr_eq, String.reduceEq] at ins
    simp -implicitDefEqProofs only [EVc, Nat.reduceSub, Int.reduceLT, Int.reduceLE, Int.reduceEq, Int.reduceSub, Int.reduceAdd, Int.reduceMul, Int.reduceNeg, List.replicate, wipeE, List.replicate_zero, List.getElem?_cons_zero, List.getElem?_cons_succ, List.set_cons_succ, List.set_cons_zero, Option.map_some, if_true, if_false, pt0, pt1_p, Pt.tag, W0.s, l2_eqS, ofStr_eq, String.reduceEq, ins]
    rw [ixp hv.1 hv.2]
    simp -implicitDefEqProofs only [EVc, Nat.reduceSub, Int.reduceLT, Int.reduceLE, Int.reduceEq, Int.reduceSub, Int.reduceAdd, Int.reduceMul, Int.reduceNeg, List.replicate, wipeE, List.replicate_zero, List.getElem?_cons_zero, List.getElem?_cons_succ, List.set_cons_succ, List.set_cons_zero, Option.map_some, if_true, if_false]
    (try first | trivial | exact ⟨rfl, rfl⟩ | exact ⟨rfl, trivial⟩ | rfl)
  | .price .sell x, hv, hb, hn, ins =>
    simp only [Pt.tag, W0.s, ofStr_eq, String.reduceEq] at ins
    simp -implicitDefEqProofs only [EVc, Nat.reduceSub, Int.reduceLT, Int.reduceLE, Int.reduceEq, Int.reduceSub, Int.reduceAdd, Int.reduceMul, Int.reduceNeg, List.replicate, wipeE, List.replicate_zero, List.getElem?_cons_zero, List.getElem?_cons_succ, List.set_cons_succ, List.set_cons_zero, Option.map_some, if_true, if_false, pt0, pt1_p, Pt.tag, W0.s, l2_eqS, ofStr_eq, String.reduceEq, ins]
    rw [ixp hv.1 hv.2]
    simp -implicitDefEqProofs only [EVc, Nat.reduceSub, Int.reduceLT, Int.reduceLE, Int.reduceEq, Int.reduceSub, Int.reduceAdd, Int.reduceMul, Int.reduceNeg, List.replicate, wipeE, List.replicate_zero, List.getElem?_cons_zero, List.getElem?_cons_succ, List.set_cons_succ, List.set_cons_zero, Option.map_some, if_true, if_false]
    (try first | trivial | exact ⟨rfl, rfl⟩ | exact ⟨rfl, trivial⟩ | rfl)
  | .n2 .plus a b, hv, hb, hn, ins =>
    obtain ⟨b1, b2, n1, n2⟩ := two_vb hb hn
    have wa := (wor_ok hp hv.1).1.mono b1
    have wb := (wor_ok hp hv.2).1.mono b2
    simp only [Pt.tag, W2.s, ofStr_eq, String.reduceEq] at ins
    simp -implicitDefEqProofs only [EVc, Nat.reduceSub, Int.reduceLT, Int.reduceLE, Int.reduceEq, Int.reduceSub, Int.reduceAdd, Int.reduceMul, Int.reduceNeg, List.replicate, wipeE, List.replicate_zero, List.getElem?_cons_zero, List.getElem?_cons_succ, List.set_cons_succ, List.set_cons_zero, Option.map_some, if_true, if_false, pt0, pt1_2, pt2_2, Pt.tag, W2.s, l2_eqS, ofStr_eq, String.reduceEq, ins, hg ps k a S hp hv.1 b1 n1, hg ps k b S hp hv.2 b2 n2]
    rw [ha _ _ _ wa wb]
    (try first | trivial | exact ⟨rfl, rfl⟩ | exact ⟨rfl, trivial⟩ | rfl)
  | .n2 .minus a b, hv, hb, hn, ins =>
    obtain ⟨b1, b2, n1, n2⟩ := two_vb hb hn
    have wa := (wor_ok hp hv.1).1.mono b1
    have wb := (wor_ok hp hv.2).1.mono b2
    simp only [Pt.tag, W2.s, ofStr_eq, String.reduceEq] at ins
    simp -implicitDefEqProofs only [EVc, Nat.reduceSub, Int.reduceLT, Int.reduceLE, Int.reduceEq, Int.reduceSub, Int.reduceAdd, Int.reduceMul, Int.reduceNeg, List.replicate, wipeE, List.replicate_zero, List.getElem?_cons_zero, List.getElem?_cons_succ, List.set_cons_succ, List.set_cons_zero, Option.map_some, if_true, if_false, pt0, pt1_2, pt2_2, Pt.tag, W2.s, l2_eqS, ofStr_eq, String.reduceEq, ins, hg ps k a S hp hv.1 b1 n1, hg ps k b S hp hv.2 b2 n2]
    rw [hs _ _ _ wa wb]
    (try first | trivial | exact ⟨rfl, rfl⟩ | exact ⟨rfl, trivial⟩ | rfl)
  | .n2 .times a b, hv, hb, hn, ins =>
    obtain ⟨b1, b2, n1, n2⟩ := two_vb hb hn
    have wa := (wor_ok hp hv.1).1.mono b1
    have wb := (wor_ok hp hv.2).1.mono b2
    simp only [Pt.tag, W2.s, ofStr_eq, String.reduceEq] at ins
    simp -implicitDefEqProofs only [EVc, Nat.reduceSub, Int.reduceLT, Int.reduceLE, Int.reduceEq, Int.reduceSub, Int.reduceAdd, Int.reduceMul, Int.reduceNeg, List.replicate, wipeE, List.replicate_zero, List.getElem?_cons_zero, List.getElem?_cons_succ, List.set_cons_succ, List.set_cons_zero, Option.map_some, if_true, if_false, pt0, pt1_2, pt2_2, Pt.tag, W2.s, l2_eqS, ofStr_eq, String.reduceEq, ins, hg ps k a S hp hv.1 b1 n1, hg ps k b S hp hv.2 b2 n2]
    rw [hm _ _ _ wa wb]
    (try first | trivial | exact ⟨rfl, rfl⟩ | exact ⟨rfl, trivial⟩ | rfl)
  | .n2 .least a b, hv, hb, hn, ins =>
    obtain ⟨b1, b2, n1, n2⟩ := two_vb hb hn
    have wa := (wor_ok hp hv.1).1.mono b1
    have wb := (wor_ok hp hv.2).1.mono b2
    simp only [Pt.tag, W2.s, ofStr_eq, String.reduceEq] at ins
    simp -implicitDefEqProofs only [EVc, Nat.reduceSub, Int.reduceLT, Int.reduceLE, Int.reduceEq, Int.reduceSub, Int.reduceAdd, Int.reduceMul, Int.reduceNeg, List.replicate, wipeE, List.replicate_zero, List.getElem?_cons_zero, List.getElem?_cons_succ, List.set_cons_succ, List.set_cons_zero, Option.map_some, if_true, if_false, pt0, pt1_2, pt2_2, Pt.tag, W2.s, l2_eqS, ofStr_eq, String.reduceEq, ins, hg ps k a S hp hv.1 b1 n1, hg ps k b S hp hv.2 b2 n2]
    rw [hi _ _ _ wa wb]
    (try first | trivial | exact ⟨rfl, rfl⟩ | exact ⟨rfl, trivial⟩ | rfl)
  | .n2 .greatest a b, hv, hb, hn, ins =>
    obtain ⟨b1, b2, n1, n2⟩ := two_vb hb hn
    have wa := (wor_ok hp hv.1).1.mono b1
    have wb := (wor_ok hp hv.2).1.mono b2
    simp only [Pt.tag, W2.s, ofStr_eq, String.reduceEq] at ins
    simp -implicitDefEqProofs only [EVc, Nat.reduceSub, Int.reduceLT, Int.reduceLE, Int.reduceEq, Int.reduceSub, Int.reduceAdd, Int.reduceMul, Int.reduceNeg, List.replicate, wipeE, List.replicate_zero, List.getElem?_cons_zero, List.getElem?_cons_succ, List.set_cons_succ, List.set_cons_zero, Option.map_some, if_true, if_false, pt0, pt1_2, pt2_2, Pt.tag, W2.s, l2_eqS, ofStr_eq, String.reduceEq, ins, hg ps k a S hp hv.1 b1 n1, hg ps k b S hp hv.2 b2 n2]
    rw [hx _ _ _ wa wb]
    (try first | trivial | exact ⟨rfl, rfl⟩ | exact ⟨rfl, trivial⟩ | rfl)
theorem so_vb {w : W1} {p : Pt} {k n : Nat} (hb : vb k ((Pt.n1 w p).hgt - 1) ≤ 3000) (hn : (Pt.n1 w p).hgt ≤ n + 1) : vb k (p.hgt - 1) ≤ 3000 ∧ p.hgt ≤ n := by
  have e : (Pt.n1 w p).hgt = p.hgt + 1 := rfl
  rw [e] at hb hn
  have m1 := vb_mono k (show p.hgt - 1 ≤ p.hgt + 1 - 1 by omega)
  exact ⟨by omega, by omega⟩
theorem two_vc {w : W2} {p q : Pt} {k n : Nat} (hb : vb k ((Pt.n2 w p q).hgt - 1) ≤ 3000) (hn : (Pt.n2 w p q).hgt ≤ n + 1) : vb k p.hgt ≤ 3000 ∧ vb k q.hgt ≤ 3000 ∧ p.hgt ≤ n ∧ q.hgt ≤ n := by
  have e : (Pt.n2 w p q).hgt = max p.hgt q.hgt + 1 := rfl
  rw [e] at hb hn
  have m1 := vb_mono k (show p.hgt ≤ max p.hgt q.hgt + 1 - 1 by omega)
  have m2 := vb_mono k (show q.hgt ≤ max p.hgt q.hgt + 1 - 1 by omega)
  exact ⟨by omega, by omega, by omega, by omega⟩
theorem vb_pred {k : Nat} {p : Pt} (h : vb k p.hgt ≤ 3000) : vb k (p.hgt - 1) ≤ 3000 := by
  have := vb_mono k (show p.hgt - 1 ≤ p.hgt by omega)
  omega
theorem same_cmp {a b : Fr} (ha : a.bd 3000) (hb : b.bd 3000) (ra : a.red) (rb : b.red) : decide (a.cmp b = 0) = decide (a = b) := by
  refine decide_eq_decide.mpr ⟨fun h => Fr.red_eq ra rb ha.pos hb.pos (cmp_zero.mp h), fun h => ?_⟩
  subst h
  exact cmp_zero.mpr rfl
theorem cond_step {m : Nat} (hg : SoOk n gc) (hl : FCmp gl) (hw : WorOk m gn) (hm : n ≤ m) : SoOk (n + 1) (F_condition_at gc gl gn) := fun ps k p S hp hv hb hn => by
  refine Sat.eq ?_
  rw [A_condition_at]; unfold D_condition_at
  match p, hv, hb, hn with
  | .n1 .not_ a, hv, hb, hn =>
    obtain ⟨b1, n1⟩ := so_vb hb hn
    simp -implicitDefEqProofs only [EVc, Nat.reduceSub, Int.reduceLT, Int.reduceLE, Int.reduceEq, Int.reduceSub, Int.reduceAdd, Int.reduceMul, Int.reduceNeg, List.replicate, wipeE, List.replicate_zero, List.getElem?_cons_zero, List.getElem?_cons_succ, List.set_cons_succ, List.set_cons_zero, Option.map_some, if_true, if_false, pt0, pt1_1, Pt.tag, W1.s, l2_eqS, ofStr_eq, String.reduceEq, hg ps k a S hp hv b1 n1]
    (try first | trivial | exact ⟨rfl, rfl⟩ | exact ⟨rfl, trivial⟩ | rfl)
  | .n2 .and_ a b, hv, hb, hn =>
    obtain ⟨b1, b2, n1, n2⟩ := two_vc hb hn
    simp -implicitDefEqProofs only [EVc, Nat.reduceSub, Int.reduceLT, Int.reduceLE, Int.reduceEq, Int.reduceSub, Int.reduceAdd, Int.reduceMul, Int.reduceNeg, List.replicate, wipeE, List.replicate_zero, List.getElem?_cons_zero, List.getElem?_cons_succ, List.set_cons_succ, List.set_cons_zero, Option.map_some, if_true, if_false, pt0, pt1_2, pt2_2, Pt.tag, W2.s, l2_eqS, ofStr_eq, String.reduceEq, hg ps k a S hp hv.1 (vb_pred b1) n1, hg ps k b S hp hv.2 (vb_pred b2) n2]
    show (if so ps a = true then PV.bl (so ps b) = .bl (so ps a && so ps b) else PV.bl false = .bl (so ps a && so ps b))
    cases so ps a <;> rfl
  | .n2 .less a b, hv, hb, hn =>
    obtain ⟨b1, b2, n1, n2⟩ := two_vc hb hn
    have wa := wor_ok hp hv.1
    have wb := wor_ok hp hv.2
    simp -implicitDefEqProofs only [EVc, Nat.reduceSub, Int.reduceLT, Int.reduceLE, Int.reduceEq, Int.reduceSub, Int.reduceAdd, Int.reduceMul, Int.reduceNeg, List.replicate, wipeE, List.replicate_zero, List.getElem?_cons_zero, List.getElem?_cons_succ, List.set_cons_succ, List.set_cons_zero, Option.map_some, if_true, if_false, pt0, pt1_2, pt2_2, Pt.tag, W2.s, l2_eqS, ofStr_eq, String.reduceEq, hw ps k a S hp hv.1 b1 (by omega), hw ps k b S hp hv.2 b2 (by omega)]
    rw [hl _ _ _ (wa.1.mono b1) (wb.1.mono b2)]
    simp -implicitDefEqProofs only [EVc, Nat.reduceSub, Int.reduceLT, Int.reduceLE, Int.reduceEq, Int.reduceSub, Int.reduceAdd, Int.reduceMul, Int.reduceNeg, List.replicate, wipeE, List.replicate_zero, List.getElem?_cons_zero, List.getElem?_cons_succ, List.set_cons_succ, List.set_cons_zero, Option.map_some, if_true, if_false]
    have e : decide ((wor ps a).cmp (wor ps b) < 0) = (wor ps a).lt (wor ps b) := by
      rw [Bool.eq_iff_iff, decide_eq_true_eq]; exact cmp_neg
    rw [e]
    (try first | trivial | exact ⟨rfl, rfl⟩ | exact ⟨rfl, trivial⟩ | rfl)
  | .n2 .same a b, hv, hb, hn =>
    obtain ⟨b1, b2, n1, n2⟩ := two_vc hb hn
    have wa := wor_ok hp hv.1
    have wb := wor_ok hp hv.2
    simp -implicitDefEqProofs only [EVc, Nat.reduceSub, Int.reduceLT, Int.reduceLE, Int.reduceEq, Int.reduceSub, Int.reduceAdd, Int.reduceMul, Int.reduceNeg, List.replicate, wipeE, List.replicate_zero, List.getElem?_cons_zero, List.getElem?_cons_succ, List.set_cons_succ, List.set_cons_zero, Option.map_some, if_true, if_false, pt0, pt1_2, pt2_2, Pt.tag, W2.s, l2_eqS, ofStr_eq, String.reduceEq, hw ps k a S hp hv.1 b1 (by omega), hw ps k b S hp hv.2 b2 (by omega)]
    rw [hl _ _ _ (wa.1.mono b1) (wb.1.mono b2)]
    simp -implicitDefEqProofs only [EVc, Nat.reduceSub, Int.reduceLT, Int.reduceLE, Int.reduceEq, Int.reduceSub, Int.reduceAdd, Int.reduceMul, Int.reduceNeg, List.replicate, wipeE, List.replicate_zero, List.getElem?_cons_zero, List.getElem?_cons_succ, List.set_cons_succ, List.set_cons_zero, Option.map_some, if_true, if_false]
    rw [same_cmp (wa.1.mono b1) (wb.1.mono b2) wa.2 wb.2]
    (try first | trivial | exact ⟨rfl, rfl⟩ | exact ⟨rfl, trivial⟩ | rfl)
theorem eqFr {a b : Fr} {S : Store} : lift2 gEq a.pv b.pv S = .ok (.bl (decide (a = b))) S := by
  have := l2_eqF (a := a.n) (b := a.d) (c := b.n) (d := b.d) (S := S)
  have e : (decide (a.n = b.n) && decide (a.d = b.d)) = decide (a = b) := by
    rw [← Bool.decide_and]
    refine decide_eq_decide.mpr ⟨fun h => ?_, fun h => by rw [h]; exact ⟨rfl, rfl⟩⟩
    cases a; cases b
    obtain ⟨h1, h2⟩ := h
    simp only at h1 h2
    rw [h1, h2]
  rw [← e]; exact this
theorem lso_step {m : Nat} (hg : SoOk n gc) (hl : FLess gl) (hw : WorOk m gn) (hm : n ≤ m) : SoOk (n + 1) (F_law_so gc gn gl) := fun ps k p S hp hv hb hn => by
  refine Sat.eq ?_
  rw [A_law_so]; unfold D_law_so
  match p, hv, hb, hn with
  | .n1 .not_ a, hv, hb, hn =>
    obtain ⟨b1, n1⟩ := so_vb hb hn
    simp -implicitDefEqProofs only [EVc, Nat.reduceSub, Int.reduceLT, Int.reduceLE, Int.reduceEq, Int.reduceSub, Int.reduceAdd, Int.reduceMul, Int.reduceNeg, List.replicate, wipeE, List.replicate_zero, List.getElem?_cons_zero, List.getElem?_cons_succ, List.set_cons_succ, List.set_cons_zero, Option.map_some, if_true, if_false, pt0, pt1_1, Pt.tag, W1.s, l2_eqS, ofStr_eq, String.reduceEq, hg ps k a S hp hv b1 n1]
    (try first | trivial | exact ⟨rfl, rfl⟩ | exact ⟨rfl, trivial⟩ | rfl)
  | .n2 .and_ a b, hv, hb, hn =>
    obtain ⟨b1, b2, n1, n2⟩ := two_vc hb hn
    simp -implicitDefEqProofs only [EVc, Nat.reduceSub, Int.reduceLT, Int.reduceLE, Int.reduceEq, Int.reduceSub, Int.reduceAdd, Int.reduceMul, Int.reduceNeg, List.replicate, wipeE, List.replicate_zero, List.getElem?_cons_zero, List.getElem?_cons_succ, List.set_cons_succ, List.set_cons_zero, Option.map_some, if_true, if_false, pt0, pt1_2, pt2_2, Pt.tag, W2.s, l2_eqS, ofStr_eq, String.reduceEq, hg ps k a S hp hv.1 (vb_pred b1) n1, hg ps k b S hp hv.2 (vb_pred b2) n2]
    show (if so ps a = true then PV.bl (so ps b) = .bl (so ps a && so ps b) else PV.bl false = .bl (so ps a && so ps b))
    cases so ps a <;> rfl
  | .n2 .less a b, hv, hb, hn =>
    obtain ⟨b1, b2, n1, n2⟩ := two_vc hb hn
    have wa := wor_ok hp hv.1
    have wb := wor_ok hp hv.2
    simp -implicitDefEqProofs only [EVc, Nat.reduceSub, Int.reduceLT, Int.reduceLE, Int.reduceEq, Int.reduceSub, Int.reduceAdd, Int.reduceMul, Int.reduceNeg, List.replicate, wipeE, List.replicate_zero, List.getElem?_cons_zero, List.getElem?_cons_succ, List.set_cons_succ, List.set_cons_zero, Option.map_some, if_true, if_false, pt0, pt1_2, pt2_2, Pt.tag, W2.s, l2_eqS, ofStr_eq, String.reduceEq, hw ps k a S hp hv.1 b1 (by omega), hw ps k b S hp hv.2 b2 (by omega)]
    rw [hl _ _ _ (wa.1.mono b1) (wb.1.mono b2)]
    (try first | trivial | exact ⟨rfl, rfl⟩ | exact ⟨rfl, trivial⟩ | rfl)
  | .n2 .same a b, hv, hb, hn =>
    obtain ⟨b1, b2, n1, n2⟩ := two_vc hb hn
    simp -implicitDefEqProofs only [EVc, Nat.reduceSub, Int.reduceLT, Int.reduceLE, Int.reduceEq, Int.reduceSub, Int.reduceAdd, Int.reduceMul, Int.reduceNeg, List.replicate, wipeE, List.replicate_zero, List.getElem?_cons_zero, List.getElem?_cons_succ, List.set_cons_succ, List.set_cons_zero, Option.map_some, if_true, if_false, pt0, pt1_2, pt2_2, Pt.tag, W2.s, l2_eqS, ofStr_eq, String.reduceEq, hw ps k a S hp hv.1 b1 (by omega), hw ps k b S hp hv.2 b2 (by omega)]
    rw [eqFr]
    (try first | trivial | exact ⟨rfl, rfl⟩ | exact ⟨rfl, trivial⟩ | rfl)
end
end Py
/-! Parts checked; what is told; equal to itself. -/
namespace Py
open L2

theorem Sat.eqv {α : Type} {r R : Res α} (h : Sat r (fun v S => R = .ok v S) (fun e S => R = .exc e S)) : r = R := by
  cases r with
  | ok v S => exact h.symm
  | exc e S => exact h.symm
  | bad => exact h.elim
theorem ite_both {p : Prop} [Decidable p] {A B : Prop} (h : p → B → A) (hB : B) : if p then A else B := by
  by_cases hp : p
  · rw [if_pos hp]; exact h hp hB
  · rw [if_neg hp]; exact hB
/-! ### equal to itself -/
mutual
theorem peqv_self : ∀ v : PV, shp v = true → peqv v v = true
  | .non, _ => rfl
  | .bl b, _ => by cases b <;> rfl
  | .int i, _ => decide_eq_true rfl
  | .str x, _ => decide_eq_true rfl
  | .tup xs, h => peqvs_self xs h
  | .lst xs, h => peqvs_self xs h
  | .ref _, h => nomatch h
  | .scr _, h => nomatch h
theorem peqvs_self : ∀ vs : List PV, shps vs = true → peqvs vs vs = true
  | [], _ => rfl
  | v :: vs, h => by
    simp only [shps, Bool.and_eq_true] at h
    show (peqv v v && peqvs vs vs) = true
    rw [peqv_self v h.1, peqvs_self vs h.2]; rfl
end
theorem pEq_self {v : PV} (h : shp v = true) (d : dep v ≤ 64) : pEq v v = some true := by
  have e : (if (shp v && decide (dep v ≤ 64) && (shp v && decide (dep v ≤ 64))) = true then some (peqv v v) else none) = some true := by
    rw [h, decide_eq_true d, peqv_self v h]; rfl
  cases v with
  | int i => exact congrArg some (decide_eq_true rfl)
  | str i => exact congrArg some (decide_eq_true rfl)
  | bl i => exact congrArg some (decide_eq_true rfl)
  | non => exact e
  | tup xs => exact e
  | lst xs => exact e
  | ref _ => cases h
  | scr _ => cases h
section
variable {S : Store}
theorem ne_self {v : PV} (h : shp v = true) (d : dep v ≤ 64) : lift2 gNe v v S = .ok (.bl false) S := by
  show (match (pEq v v).map (fun b => PV.bl (!b)) with | some z => Res.ok z S | none => .bad) = _
  rw [pEq_self h d]; rfl
theorem eq_self' {v : PV} (h : shp v = true) (d : dep v ≤ 64) : lift2 gEq v v S = .ok (.bl true) S := by
  show (match (pEq v v).map PV.bl with | some z => Res.ok z S | none => .bad) = _
  rw [pEq_self h d]; rfl
theorem shps_pas (l : List Path) : shps (l.map pav) = true := by
  induction l with
  | nil => rfl
  | cons p l ih => show (shp (pav p) && shps _) = true; rw [shp_pa, ih]; rfl
theorem deps_pas (l : List Path) : deps (l.map pav) ≤ 1 := by
  induction l with
  | nil => exact Nat.zero_le _
  | cons p l ih => show max (dep (pav p)) (deps _) ≤ 1; rw [dep_pa]; omega
theorem ne_pas (l : List Path) : lift2 gNe (.tup (l.map pav)) (.tup (l.map pav)) S = .ok (.bl false) S := ne_self (shps_pas l) (by have := deps_pas l; show deps _ + 1 ≤ 64; omega)
theorem ne_pp (p : PP) : lift2 gNe (ppv p) (ppv p) S = .ok (.bl false) S := ne_self rfl (by show max (max 0 (max 0 0) + 1) (max (max 0 (max 0 0) + 1) 0) + 1 ≤ 64; decide)
theorem ne_fr (a : Fr) : lift2 gNe a.pv a.pv S = .ok (.bl false) S := ne_self rfl (by show max 0 (max 0 0) + 1 ≤ 64; decide)
theorem nn_non : lift2 gNotN .non .non S = .ok (.bl false) S := rfl
theorem nn_str {x : PySem.Str} : lift2 gNotN (.str x) .non S = .ok (.bl true) S := rfl
theorem in_non : lift2 gIsN .non .non S = .ok (.bl true) S := rfl
theorem ne_str (x : PySem.Str) : lift2 gNe (.str x) (.str x) S = .ok (.bl false) S := by
  show (match (some (decide (x = x))).map (fun b => PV.bl (!b)) with | some z => Res.ok z S | none => .bad) = _
  rw [decide_eq_true rfl]; rfl
theorem eq_str (x : PySem.Str) : lift2 gEq (.str x) (.str x) S = .ok (.bl true) S := by
  show (match (some (decide (x = x))).map PV.bl with | some z => Res.ok z S | none => .bad) = _
  rw [decide_eq_true rfl]; rfl
theorem ne_nons : lift2 gNe .non .non S = .ok (.bl false) S := ne_self rfl (by decide)
theorem ne_bls (b : Bool) : lift2 gNe (.bl b) (.bl b) S = .ok (.bl false) S := by cases b <;> rfl
end
/-! ### parts checked -/
def Pt.cnt : Pt → Nat
  | .price _ _ => 1
  | .num _ _ => 1
  | .nothing => 1
  | .time _ _ p => p.cnt + 1
  | .n1 _ p => p.cnt + 1
  | .n2 _ p q => p.cnt + q.cnt + 1
theorem cnt_pos (p : Pt) : 1 ≤ p.cnt := by cases p <;> unfold Pt.cnt <;> omega
theorem cnt_hgt : ∀ p : Pt, p.cnt + 1 ≤ 2 ^ p.hgt
  | .price _ _ => by show 2 ≤ 2 ^ 1; decide
  | .num _ _ => by show 2 ≤ 2 ^ 1; decide
  | .nothing => by show 2 ≤ 2 ^ 1; decide
  | .time _ _ p => by
    have := cnt_hgt p
    show p.cnt + 1 + 1 ≤ 2 ^ (p.hgt + 1)
    have := cnt_pos p
    rw [Nat.pow_succ]; omega
  | .n1 _ p => by
    have := cnt_hgt p
    show p.cnt + 1 + 1 ≤ 2 ^ (p.hgt + 1)
    have := cnt_pos p
    rw [Nat.pow_succ]; omega
  | .n2 _ p q => by
    have h1 := cnt_hgt p
    have h2 := cnt_hgt q
    show p.cnt + q.cnt + 1 + 1 ≤ 2 ^ (max p.hgt q.hgt + 1)
    have m1 : 2 ^ p.hgt ≤ 2 ^ max p.hgt q.hgt := Nat.pow_le_pow_right (by decide) (Nat.le_max_left ..)
    have m2 : 2 ^ q.hgt ≤ 2 ^ max p.hgt q.hgt := Nat.pow_le_pow_right (by decide) (Nat.le_max_right ..)
    rw [Nat.pow_succ]; omega
def Pt.gds (g : Int) : Pt → Bool
  | .price _ x => decide (0 ≤ x ∧ x < g)
  | .n1 _ p => p.gds g
  | .n2 _ p q => p.gds g && q.gds g
  | _ => true
def Pt.sh : Pt → Prop
  | .price .buy _ => True
  | .price .sell _ => True
  | .num _ _ => True
  | .n1 _ p => p.sh
  | .n2 _ p q => p.sh ∧ q.sh
  | _ => False
theorem isV_sh {g : Int} : ∀ {p : Pt}, p.isV g → p.sh ∧ p.gds g = true
  | .price .buy _, h => ⟨trivial, decide_eq_true h⟩
  | .price .sell _, h => ⟨trivial, decide_eq_true h⟩
  | .num _ _, h => ⟨trivial, rfl⟩
  | .n2 .plus p q, h => ⟨⟨(isV_sh h.1).1, (isV_sh h.2).1⟩, Bool.and_eq_true_iff.mpr ⟨(isV_sh h.1).2, (isV_sh h.2).2⟩⟩
  | .n2 .minus p q, h => ⟨⟨(isV_sh h.1).1, (isV_sh h.2).1⟩, Bool.and_eq_true_iff.mpr ⟨(isV_sh h.1).2, (isV_sh h.2).2⟩⟩
  | .n2 .times p q, h => ⟨⟨(isV_sh h.1).1, (isV_sh h.2).1⟩, Bool.and_eq_true_iff.mpr ⟨(isV_sh h.1).2, (isV_sh h.2).2⟩⟩
  | .n2 .least p q, h => ⟨⟨(isV_sh h.1).1, (isV_sh h.2).1⟩, Bool.and_eq_true_iff.mpr ⟨(isV_sh h.1).2, (isV_sh h.2).2⟩⟩
  | .n2 .greatest p q, h => ⟨⟨(isV_sh h.1).1, (isV_sh h.2).1⟩, Bool.and_eq_true_iff.mpr ⟨(isV_sh h.1).2, (isV_sh h.2).2⟩⟩
theorem isC_sh {g : Int} : ∀ {p : Pt}, p.isC g → p.sh ∧ p.gds g = true
  | .n2 .less p q, h => ⟨⟨(isV_sh h.1).1, (isV_sh h.2).1⟩, Bool.and_eq_true_iff.mpr ⟨(isV_sh h.1).2, (isV_sh h.2).2⟩⟩
  | .n2 .same p q, h => ⟨⟨(isV_sh h.1).1, (isV_sh h.2).1⟩, Bool.and_eq_true_iff.mpr ⟨(isV_sh h.1).2, (isV_sh h.2).2⟩⟩
  | .n1 .not_ p, h => isC_sh (p := p) h
  | .n2 .and_ p q, h => ⟨⟨(isC_sh h.1).1, (isC_sh h.2).1⟩, Bool.and_eq_true_iff.mpr ⟨(isC_sh h.1).2, (isC_sh h.2).2⟩⟩
def cnts (l : List Pt) : Nat := (l.map Pt.cnt).sum
def checkedR (g : Int) (n : Nd) (q : List Int) (p : Pt) (S : Store) : Res PV := match chk g n with
  | some e => .exc e S
  | none => match findI n q with
    | none => .exc .moment S
    | some m => if p.gds g = true then .ok (.tup (m.prices.map ppv)) S else .exc .contract S
def CheckedOk (f : PF) : Prop := ∀ (n : Nd) (g : Int) (q : List Int) (p : Pt) S, n.Ok → p.sh → p.cnt ≤ 1000 → f [mkt g n, pai q, p.pv] S = checkedR g n q p S
theorem w1_tag (w : W1) : w.s ≠ PySem.Str.ofString "buy" ∧ w.s ≠ PySem.Str.ofString "sell" ∧ w.s ≠ PySem.Str.ofString "number" := by cases w <;> decide +kernel
theorem w2_tag (w : W2) : w.s ≠ PySem.Str.ofString "buy" ∧ w.s ≠ PySem.Str.ofString "sell" ∧ w.s ≠ PySem.Str.ofString "number" := by cases w <;> decide +kernel
theorem sl1_1 {w : W1} {p : Pt} {S : Store} : cutP [.str w.s, p.pv] (some 1) none = [p.pv] := rfl
theorem cnts_snoc (l : List Pt) (x : Pt) : cnts (l ++ [x]) = cnts l + x.cnt := by
  unfold cnts; rw [List.map_append, List.sum_append]; rfl
theorem len_cnts : ∀ l : List Pt, l.length ≤ cnts l
  | [] => Nat.le_refl _
  | x :: l => by
    have := len_cnts l
    have := cnt_pos x
    show l.length + 1 ≤ x.cnt + cnts l
    omega
theorem pt_ne (p : Pt) {S : Store} : lift2 gNe (.str p.tag) (.str (PySem.Str.ofString "number")) S = .ok (.bl (!decide (p.tag = PySem.Str.ofString "number"))) S := l2_neS
theorem checked_F {c p : PF} (hc : CheckMOk c) (hp : PricesOk p) : CheckedOk (F_checked_prices c p) := fun n g q p0 S h hs hn => by
  refine Sat.eqv ?_
  rw [A_checked_prices]; unfold D_checked_prices checkedR
  simp -implicitDefEqProofs only [EVc, Nat.reduceSub, Int.reduceLT, Int.reduceLE, Int.reduceEq, Int.reduceSub, Int.reduceAdd, Int.reduceMul, Int.reduceNeg, List.replicate, wipeE, List.replicate_zero, List.getElem?_cons_zero, List.getElem?_cons_succ, List.set_cons_succ, List.set_cons_zero, Option.map_some, if_true, if_false]
  rw [hc g n S h]
  cases chk g n with
  | some e => try simp -implicitDefEqProofs only [EVc, Nat.reduceSub, Int.reduceLT, Int.reduceLE, Int.reduceEq, Int.reduceSub, Int.reduceAdd, Int.reduceMul, Int.reduceNeg, List.replicate, wipeE, List.replicate_zero, List.getElem?_cons_zero, List.getElem?_cons_succ, List.set_cons_succ, List.set_cons_zero, Option.map_some, if_true, if_false]
              (try first | trivial | exact ⟨rfl, rfl⟩ | exact ⟨rfl, trivial⟩ | rfl)
  | none =>
  simp -implicitDefEqProofs only [EVc, Nat.reduceSub, Int.reduceLT, Int.reduceLE, Int.reduceEq, Int.reduceSub, Int.reduceAdd, Int.reduceMul, Int.reduceNeg, List.replicate, wipeE, List.replicate_zero, List.getElem?_cons_zero, List.getElem?_cons_succ, List.set_cons_succ, List.set_cons_zero, Option.map_some, if_true, if_false]
  rw [hp n g q S h]
  cases findI n q with
  | none => try simp -implicitDefEqProofs only [EVc, Nat.reduceSub, Int.reduceLT, Int.reduceLE, Int.reduceEq, Int.reduceSub, Int.reduceAdd, Int.reduceMul, Int.reduceNeg, List.replicate, wipeE, List.replicate_zero, List.getElem?_cons_zero, List.getElem?_cons_succ, List.set_cons_succ, List.set_cons_zero, Option.map_some, if_true, if_false]
            (try first | trivial | exact ⟨rfl, rfl⟩ | exact ⟨rfl, trivial⟩ | rfl)
  | some m =>
  have zz : 2000 ≤ sz := by decide
  refine SatF_while 1000 (fun N ρ S' => S = S' ∧ ∃ (st : List Pt) (c5 : Cell), (∀ x ∈ st, x.sh) ∧ cnts st ≤ N ∧ N ≤ 1000 ∧ st.all (Pt.gds g) = p0.gds g ∧ ρ = [.fz (mkt g n), .fz (pai q), .fz p0.pv, .fz (.tup (m.prices.map ppv)), .ow (.lst (st.map Pt.pv)), c5]) ⟨rfl, [p0], .un, fun x hx => by rw [List.mem_singleton.mp hx]; exact hs, by show p0.cnt + 0 ≤ _; omega, Nat.le_refl _, by show (p0.gds g && true) = _; rw [Bool.and_true], rfl⟩ ?_
  rintro N ρ S' ⟨hS, st, c5, hsh, hN, hN2, hg, rfl⟩
  subst hS
  simp -implicitDefEqProofs only [EVc, Nat.reduceSub, Int.reduceLT, Int.reduceLE, Int.reduceEq, Int.reduceSub, Int.reduceAdd, Int.reduceMul, Int.reduceNeg, List.replicate, wipeE, List.replicate_zero, List.getElem?_cons_zero, List.getElem?_cons_succ, List.set_cons_succ, List.set_cons_zero, Option.map_some, if_true, if_false, List.length_map]
  rcases List.eq_nil_or_concat st with rfl | ⟨st, x, rfl⟩
  · right
    refine ⟨rfl, ?_⟩
    try simp -implicitDefEqProofs only [EVc, Nat.reduceSub, Int.reduceLT, Int.reduceLE, Int.reduceEq, Int.reduceSub, Int.reduceAdd, Int.reduceMul, Int.reduceNeg, List.replicate, wipeE, List.replicate_zero, List.getElem?_cons_zero, List.getElem?_cons_succ, List.set_cons_succ, List.set_cons_zero, Option.map_some, if_true, if_false]
    rw [if_pos (show p0.gds g = true from hg.symm)]
    (try first | trivial | exact ⟨rfl, rfl⟩ | exact ⟨rfl, trivial⟩ | rfl)
  · left
    rw [List.concat_eq_append] at *
    have hx := hsh x (by simp)
    have hst : ∀ y ∈ st, y.sh := fun y hy => hsh y (by simp [hy])
    rw [cnts_snoc] at hN
    have hlen := len_cnts st
    rw [List.all_append, List.all_cons, List.all_nil, Bool.and_true] at hg
    refine ⟨by rw [decide_eq_true]; rw [List.length_append, List.length_singleton]; omega, ?_⟩
    rw [List.map_append, List.map_cons, List.map_nil, popC_snoc]
    have ins : lift2 gIn (.str x.tag) (.tup [.str (PySem.Str.ofString "buy"), .str (PySem.Str.ofString "sell")]) S = .ok (.bl (decide (PySem.Str.ofString "buy" = x.tag) || decide (PySem.Str.ofString "sell" = x.tag))) S := l2_inS2 (shp_tag x) shp_buy shp_sell
    simp -implicitDefEqProofs only [EVc, Nat.reduceSub, Int.reduceLT, Int.reduceLE, Int.reduceEq, Int.reduceSub, Int.reduceAdd, Int.reduceMul, Int.reduceNeg, List.replicate, wipeE, List.replicate_zero, List.getElem?_cons_zero, List.getElem?_cons_succ, List.set_cons_succ, List.set_cons_zero, Option.map_some, if_true, if_false, pt0, ins]
    match x, hx, hg, hN with
    | .price .buy v, hx, hg, hN =>
      simp only [Pt.tag, W0.s, ofStr_eq, String.reduceEq, pt1_p, EVc, Nat.reduceSub, Int.reduceLT, Int.reduceLE, Int.reduceEq, Int.reduceSub, Int.reduceAdd, Int.reduceMul, Int.reduceNeg, List.replicate, wipeE, List.replicate_zero, List.getElem?_cons_zero, List.getElem?_cons_succ, List.set_cons_succ, List.set_cons_zero, Option.map_some, if_true, if_false, pt_ne]
      by_cases h1 : 0 ≤ v
      · by_cases h2 : v < g
        · simp -implicitDefEqProofs only [EVc, Nat.reduceSub, Int.reduceLT, Int.reduceLE, Int.reduceEq, Int.reduceSub, Int.reduceAdd, Int.reduceMul, Int.reduceNeg, List.replicate, wipeE, List.replicate_zero, List.getElem?_cons_zero, List.getElem?_cons_succ, List.set_cons_succ, List.set_cons_zero, Option.map_some, if_true, if_false, h1, h2]
          refine ⟨N - 1, by have : (Pt.price W0.buy v).cnt = 1 := rfl; omega, st, _, hst, by have : (Pt.price W0.buy v).cnt = 1 := rfl; omega, by omega, ?_, rfl⟩
          rw [← hg]; show _ = (_ && decide (0 ≤ v ∧ v < g)); rw [decide_eq_true ⟨h1, h2⟩, Bool.and_true]
        · simp -implicitDefEqProofs only [EVc, Nat.reduceSub, Int.reduceLT, Int.reduceLE, Int.reduceEq, Int.reduceSub, Int.reduceAdd, Int.reduceMul, Int.reduceNeg, List.replicate, wipeE, List.replicate_zero, List.getElem?_cons_zero, List.getElem?_cons_succ, List.set_cons_succ, List.set_cons_zero, Option.map_some, if_true, if_false, h1, h2]
          rw [if_neg]
          rw [← hg]; show ¬ (_ && decide (0 ≤ v ∧ v < g)) = true; rw [decide_eq_false (fun h => h2 h.2), Bool.and_false]; exact Bool.noConfusion
      · simp -implicitDefEqProofs only [EVc, Nat.reduceSub, Int.reduceLT, Int.reduceLE, Int.reduceEq, Int.reduceSub, Int.reduceAdd, Int.reduceMul, Int.reduceNeg, List.replicate, wipeE, List.replicate_zero, List.getElem?_cons_zero, List.getElem?_cons_succ, List.set_cons_succ, List.set_cons_zero, Option.map_some, if_true, if_false, h1]
        rw [if_neg]
        rw [← hg]; show ¬ (_ && decide (0 ≤ v ∧ v < g)) = true; rw [decide_eq_false (fun h => h1 h.1), Bool.and_false]; exact Bool.noConfusion
    | .price .sell v, hx, hg, hN =>
      simp only [Pt.tag, W0.s, ofStr_eq, String.reduceEq, pt1_p, EVc, Nat.reduceSub, Int.reduceLT, Int.reduceLE, Int.reduceEq, Int.reduceSub, Int.reduceAdd, Int.reduceMul, Int.reduceNeg, List.replicate, wipeE, List.replicate_zero, List.getElem?_cons_zero, List.getElem?_cons_succ, List.set_cons_succ, List.set_cons_zero, Option.map_some, if_true, if_false, pt_ne]
      by_cases h1 : 0 ≤ v
      · by_cases h2 : v < g
        · simp -implicitDefEqProofs only [EVc, Nat.reduceSub, Int.reduceLT, Int.reduceLE, Int.reduceEq, Int.reduceSub, Int.reduceAdd, Int.reduceMul, Int.reduceNeg, List.replicate, wipeE, List.replicate_zero, List.getElem?_cons_zero, List.getElem?_cons_succ, List.set_cons_succ, List.set_cons_zero, Option.map_some, if_true, if_false, h1, h2]
          refine ⟨N - 1, by have : (Pt.price W0.sell v).cnt = 1 := rfl; omega, st, _, hst, by have : (Pt.price W0.sell v).cnt = 1 := rfl; omega, by omega, ?_, rfl⟩
          rw [← hg]; show _ = (_ && decide (0 ≤ v ∧ v < g)); rw [decide_eq_true ⟨h1, h2⟩, Bool.and_true]
        · simp -implicitDefEqProofs only [EVc, Nat.reduceSub, Int.reduceLT, Int.reduceLE, Int.reduceEq, Int.reduceSub, Int.reduceAdd, Int.reduceMul, Int.reduceNeg, List.replicate, wipeE, List.replicate_zero, List.getElem?_cons_zero, List.getElem?_cons_succ, List.set_cons_succ, List.set_cons_zero, Option.map_some, if_true, if_false, h1, h2]
          rw [if_neg]
          rw [← hg]; show ¬ (_ && decide (0 ≤ v ∧ v < g)) = true; rw [decide_eq_false (fun h => h2 h.2), Bool.and_false]; exact Bool.noConfusion
      · simp -implicitDefEqProofs only [EVc, Nat.reduceSub, Int.reduceLT, Int.reduceLE, Int.reduceEq, Int.reduceSub, Int.reduceAdd, Int.reduceMul, Int.reduceNeg, List.replicate, wipeE, List.replicate_zero, List.getElem?_cons_zero, List.getElem?_cons_succ, List.set_cons_succ, List.set_cons_zero, Option.map_some, if_true, if_false, h1]
        rw [if_neg]
        rw [← hg]; show ¬ (_ && decide (0 ≤ v ∧ v < g)) = true; rw [decide_eq_false (fun h => h1 h.1), Bool.and_false]; exact Bool.noConfusion
    | .num a d, hx, hg, hN =>
      simp only [Pt.tag, ofStr_eq, String.reduceEq, EVc, Nat.reduceSub, Int.reduceLT, Int.reduceLE, Int.reduceEq, Int.reduceSub, Int.reduceAdd, Int.reduceMul, Int.reduceNeg, List.replicate, wipeE, List.replicate_zero, List.getElem?_cons_zero, List.getElem?_cons_succ, List.set_cons_succ, List.set_cons_zero, Option.map_some, if_true, if_false, pt_ne, l2_neS]
      refine ⟨N - 1, by have : (Pt.num a d).cnt = 1 := rfl; omega, st, _, hst, by have : (Pt.num a d).cnt = 1 := rfl; omega, by omega, ?_, rfl⟩
      rw [← hg]; show _ = (_ && true); rw [Bool.and_true]
    | .n1 w a, hx, hg, hN =>
      obtain ⟨t1, t2, t3⟩ := w1_tag w
      have e0 : (Pt.n1 w a).cnt = a.cnt + 1 := rfl
      simp only [Pt.tag, eq_false (Ne.symm t1), eq_false (Ne.symm t2), eq_false t3, EVc, Nat.reduceSub, Int.reduceLT, Int.reduceLE, Int.reduceEq, Int.reduceSub, Int.reduceAdd, Int.reduceMul, Int.reduceNeg, List.replicate, wipeE, List.replicate_zero, List.getElem?_cons_zero, List.getElem?_cons_succ, List.set_cons_succ, List.set_cons_zero, Option.map_some, if_true, if_false, pt0, l2_neS]
      rw [show (Pt.n1 w a).pv = .tup [.str w.s, a.pv] from rfl]
      rw [show liftS gSl (.tup [PV.str w.s, a.pv]) (some 1) none S = .ok (.tup [a.pv]) S from rfl]
      simp -implicitDefEqProofs only [EVc, Nat.reduceSub, Int.reduceLT, Int.reduceLE, Int.reduceEq, Int.reduceSub, Int.reduceAdd, Int.reduceMul, Int.reduceNeg, List.replicate, wipeE, List.replicate_zero, List.getElem?_cons_zero, List.getElem?_cons_succ, List.set_cons_succ, List.set_cons_zero, Option.map_some, if_true, if_false]
      rw [l2_addLo (by rw [List.length_map, List.length_singleton]; omega)]
      simp -implicitDefEqProofs only [EVc, Nat.reduceSub, Int.reduceLT, Int.reduceLE, Int.reduceEq, Int.reduceSub, Int.reduceAdd, Int.reduceMul, Int.reduceNeg, List.replicate, wipeE, List.replicate_zero, List.getElem?_cons_zero, List.getElem?_cons_succ, List.set_cons_succ, List.set_cons_zero, Option.map_some, if_true, if_false]
      refine ⟨N - 1, by omega, st ++ [a], _, fun y hy => ?_, by rw [cnts_snoc]; omega, by omega, ?_, by rw [List.map_append]; rfl⟩
      · rcases List.mem_append.mp hy with hy | hy
        · exact hst y hy
        · rw [List.mem_singleton.mp hy]; exact hx
      · rw [← hg, List.all_append, List.all_cons, List.all_nil, Bool.and_true]; rfl
    | .n2 w a b, hx, hg, hN =>
      obtain ⟨t1, t2, t3⟩ := w2_tag w
      have e0 : (Pt.n2 w a b).cnt = a.cnt + b.cnt + 1 := rfl
      simp only [Pt.tag, eq_false (Ne.symm t1), eq_false (Ne.symm t2), eq_false t3, EVc, Nat.reduceSub, Int.reduceLT, Int.reduceLE, Int.reduceEq, Int.reduceSub, Int.reduceAdd, Int.reduceMul, Int.reduceNeg, List.replicate, wipeE, List.replicate_zero, List.getElem?_cons_zero, List.getElem?_cons_succ, List.set_cons_succ, List.set_cons_zero, Option.map_some, if_true, if_false, pt0, l2_neS]
      rw [show (Pt.n2 w a b).pv = .tup [.str w.s, a.pv, b.pv] from rfl]
      rw [show liftS gSl (.tup [PV.str w.s, a.pv, b.pv]) (some 1) none S = .ok (.tup [a.pv, b.pv]) S from rfl]
      simp -implicitDefEqProofs only [EVc, Nat.reduceSub, Int.reduceLT, Int.reduceLE, Int.reduceEq, Int.reduceSub, Int.reduceAdd, Int.reduceMul, Int.reduceNeg, List.replicate, wipeE, List.replicate_zero, List.getElem?_cons_zero, List.getElem?_cons_succ, List.set_cons_succ, List.set_cons_zero, Option.map_some, if_true, if_false]
      rw [l2_addLo (by rw [List.length_map]; show st.length + 2 ≤ sz; omega)]
      simp -implicitDefEqProofs only [EVc, Nat.reduceSub, Int.reduceLT, Int.reduceLE, Int.reduceEq, Int.reduceSub, Int.reduceAdd, Int.reduceMul, Int.reduceNeg, List.replicate, wipeE, List.replicate_zero, List.getElem?_cons_zero, List.getElem?_cons_succ, List.set_cons_succ, List.set_cons_zero, Option.map_some, if_true, if_false]
      refine ⟨N - 1, by omega, (st ++ [a]) ++ [b], _, fun y hy => ?_, by rw [cnts_snoc, cnts_snoc]; omega, by omega, ?_, by rw [List.map_append, List.map_append, List.append_assoc]; rfl⟩
      · rcases List.mem_append.mp hy with hy | hy
        · rcases List.mem_append.mp hy with hy | hy
          · exact hst y hy
          · rw [List.mem_singleton.mp hy]; exact hx.1
        · rw [List.mem_singleton.mp hy]; exact hx.2
      · rw [← hg, List.all_append, List.all_append, List.all_cons, List.all_nil, Bool.and_true, List.all_cons, List.all_nil, Bool.and_true, Bool.and_assoc]; rfl
/-! ### worth at a moment -/
def PriOk (g : Int) (k : Nat) (n : Nd) : Prop := ∀ q m, findI n q = some m → (m.prices.length : Int) = g ∧ PsG k m.prices
def valueR (g : Int) (n : Nd) (q : List Int) (p : Pt) (S : Store) : Res PV := match findI n q with
  | none => .exc .moment S
  | some m => if p.gds g = true then .ok (wor m.prices p).pv S else .exc .contract S
def holdsR (g : Int) (n : Nd) (q : List Int) (p : Pt) (S : Store) : Res PV := match findI n q with
  | none => .exc .moment S
  | some m => if p.gds g = true then .ok (.bl (so m.prices p)) S else .exc .contract S
def ValueAtOk (N : Nat) (f : PF) : Prop := ∀ (n : Nd) (g : Int) (q : List Int) (p : Pt) (k : Nat) S, n.Ok → chk g n = none → PriOk g k n → p.sh → p.cnt ≤ 1000 → (p.gds g = true → p.vOk g k ∧ vb k p.hgt ≤ 3000 ∧ p.hgt ≤ N) → f [mkt g n, pai q, p.pv] S = valueR g n q p S
def HoldsAtOk (N : Nat) (f : PF) : Prop := ∀ (n : Nd) (g : Int) (q : List Int) (p : Pt) (k : Nat) S, n.Ok → chk g n = none → PriOk g k n → p.sh → p.cnt ≤ 1000 → (p.gds g = true → p.cOk g k ∧ vb k (p.hgt - 1) ≤ 3000 ∧ p.hgt ≤ N) → f [mkt g n, pai q, p.pv] S = holdsR g n q p S
theorem value_at_F {N : Nat} {w c : PF} (hw : WorOk N w) (hc : CheckedOk c) : ValueAtOk N (F_value_at w c) := fun n g q p k S h h0 hp hs hn hv => by
  refine Sat.eqv ?_
  rw [A_value_at]; unfold D_value_at valueR
  simp -implicitDefEqProofs only [EVc, Nat.reduceSub, Int.reduceLT, Int.reduceLE, Int.reduceEq, Int.reduceSub, Int.reduceAdd, Int.reduceMul, Int.reduceNeg, List.replicate, wipeE, List.replicate_zero, List.getElem?_cons_zero, List.getElem?_cons_succ, List.set_cons_succ, List.set_cons_zero, Option.map_some, if_true, if_false]
  rw [hc n g q p S h hs hn]
  unfold checkedR
  rw [h0]
  cases e : findI n q with
  | none => try simp -implicitDefEqProofs only [EVc, Nat.reduceSub, Int.reduceLT, Int.reduceLE, Int.reduceEq, Int.reduceSub, Int.reduceAdd, Int.reduceMul, Int.reduceNeg, List.replicate, wipeE, List.replicate_zero, List.getElem?_cons_zero, List.getElem?_cons_succ, List.set_cons_succ, List.set_cons_zero, Option.map_some, if_true, if_false]
            (try first | trivial | exact ⟨rfl, rfl⟩ | exact ⟨rfl, trivial⟩ | rfl)
  | some m =>
    obtain ⟨hl, hg⟩ := hp q m e
    by_cases hgd : p.gds g = true
    · obtain ⟨v1, v2, v3⟩ := hv hgd
      rw [← hl] at v1
      simp -implicitDefEqProofs only [EVc, Nat.reduceSub, Int.reduceLT, Int.reduceLE, Int.reduceEq, Int.reduceSub, Int.reduceAdd, Int.reduceMul, Int.reduceNeg, List.replicate, wipeE, List.replicate_zero, List.getElem?_cons_zero, List.getElem?_cons_succ, List.set_cons_succ, List.set_cons_zero, Option.map_some, if_true, if_false, hgd]
      rw [hw _ k p S hg v1 v2 v3]
      (try first | trivial | exact ⟨rfl, rfl⟩ | exact ⟨rfl, trivial⟩ | rfl)
    · simp -implicitDefEqProofs only [EVc, Nat.reduceSub, Int.reduceLT, Int.reduceLE, Int.reduceEq, Int.reduceSub, Int.reduceAdd, Int.reduceMul, Int.reduceNeg, List.replicate, wipeE, List.replicate_zero, List.getElem?_cons_zero, List.getElem?_cons_succ, List.set_cons_succ, List.set_cons_zero, Option.map_some, if_true, if_false, hgd]
      (try first | trivial | exact ⟨rfl, rfl⟩ | exact ⟨rfl, trivial⟩ | rfl)
theorem holds_at_F {N : Nat} {w c : PF} (hw : SoOk N w) (hc : CheckedOk c) : HoldsAtOk N (F_holds_at w c) := fun n g q p k S h h0 hp hs hn hv => by
  refine Sat.eqv ?_
  rw [A_holds_at]; unfold D_holds_at holdsR
  simp -implicitDefEqProofs only [EVc, Nat.reduceSub, Int.reduceLT, Int.reduceLE, Int.reduceEq, Int.reduceSub, Int.reduceAdd, Int.reduceMul, Int.reduceNeg, List.replicate, wipeE, List.replicate_zero, List.getElem?_cons_zero, List.getElem?_cons_succ, List.set_cons_succ, List.set_cons_zero, Option.map_some, if_true, if_false]
  rw [hc n g q p S h hs hn]
  unfold checkedR
  rw [h0]
  cases e : findI n q with
  | none => try simp -implicitDefEqProofs only [EVc, Nat.reduceSub, Int.reduceLT, Int.reduceLE, Int.reduceEq, Int.reduceSub, Int.reduceAdd, Int.reduceMul, Int.reduceNeg, List.replicate, wipeE, List.replicate_zero, List.getElem?_cons_zero, List.getElem?_cons_succ, List.set_cons_succ, List.set_cons_zero, Option.map_some, if_true, if_false]
            (try first | trivial | exact ⟨rfl, rfl⟩ | exact ⟨rfl, trivial⟩ | rfl)
  | some m =>
    obtain ⟨hl, hg⟩ := hp q m e
    by_cases hgd : p.gds g = true
    · obtain ⟨v1, v2, v3⟩ := hv hgd
      rw [← hl] at v1
      simp -implicitDefEqProofs only [EVc, Nat.reduceSub, Int.reduceLT, Int.reduceLE, Int.reduceEq, Int.reduceSub, Int.reduceAdd, Int.reduceMul, Int.reduceNeg, List.replicate, wipeE, List.replicate_zero, List.getElem?_cons_zero, List.getElem?_cons_succ, List.set_cons_succ, List.set_cons_zero, Option.map_some, if_true, if_false, hgd]
      rw [hw _ k p S hg v1 v2 v3]
      (try first | trivial | exact ⟨rfl, rfl⟩ | exact ⟨rfl, trivial⟩ | rfl)
    · simp -implicitDefEqProofs only [EVc, Nat.reduceSub, Int.reduceLT, Int.reduceLE, Int.reduceEq, Int.reduceSub, Int.reduceAdd, Int.reduceMul, Int.reduceNeg, List.replicate, wipeE, List.replicate_zero, List.getElem?_cons_zero, List.getElem?_cons_succ, List.set_cons_succ, List.set_cons_zero, Option.map_some, if_true, if_false, hgd]
      (try first | trivial | exact ⟨rfl, rfl⟩ | exact ⟨rfl, trivial⟩ | rfl)
theorem tree_findI {g : Nat} : ∀ {q : List Int} {h : Nat} {n m : Nd}, Tree g h n → findI n q = some m → ∃ h', h' ≤ h ∧ Tree g h' m
  | [], h, n, m, t, e => by cases e; exact ⟨h, Nat.le_refl _, t⟩
  | k :: q, h, n, m, t, e => by
    unfold findI at e
    split at e
    · cases e
    · cases ek : n.ks[k.toNat]? with
      | none => rw [ek] at e; cases e
      | some m' =>
        rw [ek] at e
        cases h with
        | zero => rw [show n.ks = [] from t.2] at ek; cases ek
        | succ h =>
          obtain ⟨h', h1, h2⟩ := tree_findI (t.2.2.2 m' (List.mem_of_getElem? ek)) e
          exact ⟨h', by omega, h2⟩
theorem one_PsG : bdP 200 (Fr.one, Fr.one) ∧ (Fr.one).red ∧ (Fr.one).red := by
  have h : Fr.one.bd 200 := (show Fr.one.bd 1 from ⟨by decide, show (1 : Nat) < 2 ^ 1 by decide, show (1 : Nat) < 2 ^ 1 by decide⟩).mono (by decide)
  exact ⟨⟨h, h⟩, red_int 1, red_int 1⟩
theorem ps_PsG {g : Nat} {m : Nd} (t : PsOk g m.ps) : (m.prices.length : Int) = g ∧ PsG 200 m.prices := by
  refine ⟨by have := t.len; show ((m.ps.length + 1 : Nat) : Int) = _; omega, fun p hp => ?_⟩
  rcases List.mem_cons.mp (show p ∈ (Fr.one, Fr.one) :: m.ps from hp) with rfl | hp
  · exact one_PsG
  · have := t.good p hp
    exact ⟨this.bd, this.red⟩
theorem MkG.pri {g h : Nat} {n : Nd} (m : MkG g h n) : PriOk (g : Int) 200 n := fun q x e => by
  obtain ⟨h', _, t⟩ := tree_findI m.tree e
  exact ps_PsG t.ps
end Py
/-! Plans, deals, holdings. -/
namespace Py
open L2

/-! ### deals -/
def stepD (ps : List PP) (am : List Fr) (held : List Fr) (k : Nat) : List Fr :=
  (held.set (k + 1) ((held.getD (k + 1) Fr.zero).add (am.getD k Fr.zero))).set 0 ((held.getD 0 Fr.zero).sub ((am.getD k Fr.zero).mul (if 0 < (am.getD k Fr.zero).n then (ps.getD (k + 1) (Fr.zero, Fr.zero)).1 else (ps.getD (k + 1) (Fr.zero, Fr.zero)).2)))
def deal (ps : List PP) (held am : List Fr) : List Fr := (List.range am.length).foldl (stepD ps am) held
structure DealG (ps : List PP) (am : List Fr) : Prop where
  pb : ∀ p ∈ ps, bdP 200 p
  ab : ∀ a ∈ am, a.bd 4
  pl : ps.length = am.length + 1
  a3 : am.length ≤ 3
theorem getD_bd {l : List Fr} {k j : Nat} (h : ∀ a ∈ l, a.bd j) (hk : k < l.length) : (l.getD k Fr.zero).bd j := by
  rw [List.getD_eq_getElem?_getD, List.getElem?_eq_getElem hk]
  exact h _ (List.getElem_mem hk)
theorem getD_bdP {l : List PP} {k j : Nat} (h : ∀ a ∈ l, bdP j a) (hk : k < l.length) : bdP j (l.getD k (Fr.zero, Fr.zero)) := by
  rw [List.getD_eq_getElem?_getD, List.getElem?_eq_getElem hk]
  exact h _ (List.getElem_mem hk)
theorem stepD_len {ps : List PP} {am held : List Fr} {k : Nat} : (stepD ps am held k).length = held.length := by unfold stepD; rw [List.length_set, List.length_set]
def prc (ps : List PP) (am : List Fr) (k : Nat) : Fr := if 0 < (am.getD k Fr.zero).n then (ps.getD (k + 1) (Fr.zero, Fr.zero)).1 else (ps.getD (k + 1) (Fr.zero, Fr.zero)).2
theorem prc_bd {ps : List PP} {am : List Fr} (g : DealG ps am) {k : Nat} (hk : k < am.length) : (prc ps am k).bd 200 := by
  have := getD_bdP g.pb (show k + 1 < ps.length by rw [g.pl]; omega)
  unfold prc
  split
  · exact this.1
  · exact this.2
theorem stepD_bd {ps : List PP} {am held : List Fr} {k j : Nat} (g : DealG ps am) (hh : ∀ a ∈ held, a.bd j) (hl : held.length = am.length + 1) (hk : k < am.length) : ∀ a ∈ stepD ps am held k, a.bd (j + 206) := fun a ha => by
  have h1 := getD_bd g.ab hk
  have h2 := prc_bd g hk
  have h3 := getD_bd hh (show 0 < held.length by omega)
  have h4 := getD_bd hh (show k + 1 < held.length by omega)
  unfold stepD at ha
  rcases List.mem_or_eq_of_mem_set ha with ha | rfl
  · rcases List.mem_or_eq_of_mem_set ha with ha | rfl
    · exact (hh a ha).mono (by omega)
    · exact (h4.add h1).mono (by omega)
  · exact (h3.sub (h1.mul h2)).mono (by omega)
theorem fold_bd {ps : List PP} {am : List Fr} (g : DealG ps am) : ∀ (l : List Nat) (held : List Fr) (j : Nat), (∀ a ∈ held, a.bd j) → held.length = am.length + 1 → (∀ k ∈ l, k < am.length) → (∀ a ∈ l.foldl (stepD ps am) held, a.bd (j + 206 * l.length)) ∧ (l.foldl (stepD ps am) held).length = am.length + 1
  | [], held, j, hh, hl, _ => ⟨fun a ha => (hh a ha).mono (by omega), hl⟩
  | k :: l, held, j, hh, hl, hk => by
    obtain ⟨h1, h2⟩ := fold_bd g l (stepD ps am held k) (j + 206) (stepD_bd g hh hl (hk k List.mem_cons_self)) (by rw [stepD_len, hl]) fun x hx => hk x (List.mem_cons_of_mem _ hx)
    exact ⟨fun a ha => (h1 a ha).mono (by rw [List.length_cons]; omega), h2⟩
theorem deal_bd {ps : List PP} {am held : List Fr} {j : Nat} (g : DealG ps am) (hh : ∀ a ∈ held, a.bd j) (hl : held.length = am.length + 1) : (∀ a ∈ deal ps held am, a.bd (j + 618)) ∧ (deal ps held am).length = am.length + 1 := by
  obtain ⟨h1, h2⟩ := fold_bd g (List.range am.length) held j hh hl fun k hk => List.mem_range.mp hk
  refine ⟨fun a ha => (h1 a ha).mono ?_, h2⟩
  have := g.a3
  rw [List.length_range]; omega
def DealOk (f : PF) : Prop := ∀ (ps : List PP) (held am : List Fr) (j : Nat) S, DealG ps am → (∀ a ∈ held, a.bd j) → held.length = am.length + 1 → j ≤ 1900 → f [.tup (ps.map ppv), .tup (held.map Fr.pv), .tup (am.map Fr.pv)] S = .ok (.tup ((deal ps held am).map Fr.pv)) S
theorem mapD {l : List Fr} {k : Nat} (h : k < l.length) : (l.map Fr.pv)[k]? = some (l.getD k Fr.zero).pv := by
  rw [List.getElem?_map, List.getD_eq_getElem?_getD, List.getElem?_eq_getElem h]; rfl
theorem mapDP {l : List PP} {k : Nat} (h : k < l.length) : (l.map ppv)[k]? = some (ppv (l.getD k (Fr.zero, Fr.zero))) := by
  rw [List.getElem?_map, List.getD_eq_getElem?_getD, List.getElem?_eq_getElem h]; rfl
theorem map_setF {l : List Fr} {k : Nat} {a : Fr} : (l.map Fr.pv).set k a.pv = (l.set k a).map Fr.pv := by rw [List.map_set]
theorem range_next {dn l : List Nat} {k n : Nat} (h : dn ++ k :: l = List.range n) : k < n := List.mem_range.mp (by rw [← h]; simp)
theorem range_done {dn l : List Nat} {n : Nat} (h : dn ++ l = List.range n) : ∀ k ∈ dn, k < n := fun k hk => List.mem_range.mp (by rw [← h]; exact List.mem_append_left _ hk)
theorem set_okI {i : Int} {k : Nat} {v : PV} {xs : List PV} (e : i = (k : Int)) (h : k < xs.length) : setAt (.int i) v xs = some (xs.set k v) := by subst e; exact set_ok h
theorem traded_F {a s t : PF} (ha : FAdd a) (hs : FSub s) (ht : FMul t) : DealOk (F_traded a s t) := fun ps held am j S g hh hl hj => by
  refine Sat.eq ?_
  rw [A_traded]; unfold D_traded
  have zz : 2000 ≤ sz := by decide
  have a3 := g.a3
  simp -implicitDefEqProofs only [EVc, Nat.reduceSub, Int.reduceLT, Int.reduceLE, Int.reduceEq, Int.reduceSub, Int.reduceAdd, Int.reduceMul, Int.reduceNeg, List.replicate, wipeE, List.replicate_zero, List.getElem?_cons_zero, List.getElem?_cons_succ, List.set_cons_succ, List.set_cons_zero, Option.map_some, if_true, if_false, List.length_map, listT]
  rw [rng1F_n (by omega)]
  simp -implicitDefEqProofs only [EVc, Nat.reduceSub, Int.reduceLT, Int.reduceLE, Int.reduceEq, Int.reduceSub, Int.reduceAdd, Int.reduceMul, Int.reduceNeg, List.replicate, wipeE, List.replicate_zero, List.getElem?_cons_zero, List.getElem?_cons_succ, List.set_cons_succ, List.set_cons_zero, Option.map_some, if_true, if_false]
  refine SatF_for (fun (k : Nat) => PV.int k) (fun dn l ρ S' => S = S' ∧ dn ++ l = List.range am.length ∧ ∃ c4 c5 c6, ρ = [.fz (.tup (ps.map ppv)), .fz (.tup (held.map Fr.pv)), .fz (.tup (am.map Fr.pv)), .ow (.lst ((dn.foldl (stepD ps am) held).map Fr.pv)), c4, c5, c6]) (List.range am.length) [] _ _ ⟨rfl, rfl, .un, .un, .un, rfl⟩ ?_ ?_
  · rintro dn k l ρ S' ⟨hS, hd, c4, c5, c6, rfl⟩
    subst hS
    refine ⟨_, rfl, ?_⟩
    have hk := range_next hd
    obtain ⟨b1, b2⟩ := fold_bd g dn held j hh hl (range_done hd)
    have hdn : dn.length ≤ 2 := by
      have := congrArg List.length hd
      rw [List.length_append, List.length_cons, List.length_range] at this
      omega
    have ek : (k : Int) + 1 = ((k + 1 : Nat) : Int) := by omega
    generalize hq : dn.foldl (stepD ps am) held = H at *
    have h1 := getD_bd g.ab hk
    have h2 := prc_bd g hk
    have h3 := getD_bd b1 (show 0 < H.length by omega)
    have h4 := getD_bd b1 (show k + 1 < H.length by omega)
    have i1 : lift2 gIx (.tup (am.map Fr.pv)) (.int (k : Int)) S = .ok (am.getD k Fr.zero).pv S := ixT (mapD hk)
    have i2 : lift2 gIx (.tup (ps.map ppv)) (.int ((k : Int) + 1)) S = .ok (ppv (ps.getD (k + 1) (Fr.zero, Fr.zero))) S := ixTe ek (mapDP (by rw [g.pl]; omega))
    have i3 : lift2 gIx (.lst (H.map Fr.pv)) (.int ((k : Int) + 1)) S = .ok (H.getD (k + 1) Fr.zero).pv S := ixLe ek (mapD (by omega))
    have i4 : ∀ x : Fr, lift2 gIx (.lst ((H.set (k + 1) x).map Fr.pv)) (.int 0) S = .ok (H.getD 0 Fr.zero).pv S := fun x => by
      refine ixLe (n := 0) rfl ?_
      rw [mapD (by rw [List.length_set]; omega)]
      congr 2
      rw [List.getD_eq_getElem?_getD, List.getD_eq_getElem?_getD, List.getElem?_set_ne (by omega)]
    simp -implicitDefEqProofs only [EVc, Nat.reduceSub, Int.reduceLT, Int.reduceLE, Int.reduceEq, Int.reduceSub, Int.reduceAdd, Int.reduceMul, Int.reduceNeg, List.replicate, wipeE, List.replicate_zero, List.getElem?_cons_zero, List.getElem?_cons_succ, List.set_cons_succ, List.set_cons_zero, Option.map_some, if_true, if_false, i1, i2]
    by_cases hpos : 0 < (am.getD k Fr.zero).n
    · have hp : prc ps am k = (ps.getD (k + 1) (Fr.zero, Fr.zero)).1 := if_pos hpos
      rw [if_pos hpos]
      simp -implicitDefEqProofs only [EVc, Nat.reduceSub, Int.reduceLT, Int.reduceLE, Int.reduceEq, Int.reduceSub, Int.reduceAdd, Int.reduceMul, Int.reduceNeg, List.replicate, wipeE, List.replicate_zero, List.getElem?_cons_zero, List.getElem?_cons_succ, List.set_cons_succ, List.set_cons_zero, Option.map_some, if_true, if_false, i3]
      rw [ha _ _ _ (h4.mono (by omega)) (h1.mono (by decide))]
      simp -implicitDefEqProofs only [EVc, Nat.reduceSub, Int.reduceLT, Int.reduceLE, Int.reduceEq, Int.reduceSub, Int.reduceAdd, Int.reduceMul, Int.reduceNeg, List.replicate, wipeE, List.replicate_zero, List.getElem?_cons_zero, List.getElem?_cons_succ, List.set_cons_succ, List.set_cons_zero, Option.map_some, if_true, if_false]
      rw [set_okI ek (by rw [List.length_map]; omega), map_setF]
      simp -implicitDefEqProofs only [EVc, Nat.reduceSub, Int.reduceLT, Int.reduceLE, Int.reduceEq, Int.reduceSub, Int.reduceAdd, Int.reduceMul, Int.reduceNeg, List.replicate, wipeE, List.replicate_zero, List.getElem?_cons_zero, List.getElem?_cons_succ, List.set_cons_succ, List.set_cons_zero, Option.map_some, if_true, if_false]
      rw [i4 _]
      simp -implicitDefEqProofs only [EVc, Nat.reduceSub, Int.reduceLT, Int.reduceLE, Int.reduceEq, Int.reduceSub, Int.reduceAdd, Int.reduceMul, Int.reduceNeg, List.replicate, wipeE, List.replicate_zero, List.getElem?_cons_zero, List.getElem?_cons_succ, List.set_cons_succ, List.set_cons_zero, Option.map_some, if_true, if_false]
      rw [ht _ _ _ (h1.mono (by decide)) ((hp ▸ h2).mono (by decide))]
      simp -implicitDefEqProofs only [EVc, Nat.reduceSub, Int.reduceLT, Int.reduceLE, Int.reduceEq, Int.reduceSub, Int.reduceAdd, Int.reduceMul, Int.reduceNeg, List.replicate, wipeE, List.replicate_zero, List.getElem?_cons_zero, List.getElem?_cons_succ, List.set_cons_succ, List.set_cons_zero, Option.map_some, if_true, if_false]
      rw [hs _ _ _ (h3.mono (by omega)) ((h1.mul (hp ▸ h2)).mono (by decide))]
      simp -implicitDefEqProofs only [EVc, Nat.reduceSub, Int.reduceLT, Int.reduceLE, Int.reduceEq, Int.reduceSub, Int.reduceAdd, Int.reduceMul, Int.reduceNeg, List.replicate, wipeE, List.replicate_zero, List.getElem?_cons_zero, List.getElem?_cons_succ, List.set_cons_succ, List.set_cons_zero, Option.map_some, if_true, if_false]
      rw [set_okI (i := 0) (k := 0) rfl (by rw [List.length_map, List.length_set]; omega), map_setF]
      simp -implicitDefEqProofs only [EVc, Nat.reduceSub, Int.reduceLT, Int.reduceLE, Int.reduceEq, Int.reduceSub, Int.reduceAdd, Int.reduceMul, Int.reduceNeg, List.replicate, wipeE, List.replicate_zero, List.getElem?_cons_zero, List.getElem?_cons_succ, List.set_cons_succ, List.set_cons_zero, Option.map_some, if_true, if_false]
      have e : (dn ++ [k]).foldl (stepD ps am) held = (H.set (k + 1) ((H.getD (k + 1) Fr.zero).add (am.getD k Fr.zero))).set 0 ((H.getD 0 Fr.zero).sub ((am.getD k Fr.zero).mul (prc ps am k))) := by
        rw [List.foldl_append, hq]; rfl
      rw [e, hp]
      exact ⟨by rw [← hd]; simp, _, _, _, rfl⟩
    · have hp : prc ps am k = (ps.getD (k + 1) (Fr.zero, Fr.zero)).2 := if_neg hpos
      rw [if_neg hpos]
      simp -implicitDefEqProofs only [EVc, Nat.reduceSub, Int.reduceLT, Int.reduceLE, Int.reduceEq, Int.reduceSub, Int.reduceAdd, Int.reduceMul, Int.reduceNeg, List.replicate, wipeE, List.replicate_zero, List.getElem?_cons_zero, List.getElem?_cons_succ, List.set_cons_succ, List.set_cons_zero, Option.map_some, if_true, if_false, i3]
      rw [ha _ _ _ (h4.mono (by omega)) (h1.mono (by decide))]
      simp -implicitDefEqProofs only [EVc, Nat.reduceSub, Int.reduceLT, Int.reduceLE, Int.reduceEq, Int.reduceSub, Int.reduceAdd, Int.reduceMul, Int.reduceNeg, List.replicate, wipeE, List.replicate_zero, List.getElem?_cons_zero, List.getElem?_cons_succ, List.set_cons_succ, List.set_cons_zero, Option.map_some, if_true, if_false]
      rw [set_okI ek (by rw [List.length_map]; omega), map_setF]
      simp -implicitDefEqProofs only [EVc, Nat.reduceSub, Int.reduceLT, Int.reduceLE, Int.reduceEq, Int.reduceSub, Int.reduceAdd, Int.reduceMul, Int.reduceNeg, List.replicate, wipeE, List.replicate_zero, List.getElem?_cons_zero, List.getElem?_cons_succ, List.set_cons_succ, List.set_cons_zero, Option.map_some, if_true, if_false]
      rw [i4 _]
      simp -implicitDefEqProofs only [EVc, Nat.reduceSub, Int.reduceLT, Int.reduceLE, Int.reduceEq, Int.reduceSub, Int.reduceAdd, Int.reduceMul, Int.reduceNeg, List.replicate, wipeE, List.replicate_zero, List.getElem?_cons_zero, List.getElem?_cons_succ, List.set_cons_succ, List.set_cons_zero, Option.map_some, if_true, if_false]
      rw [ht _ _ _ (h1.mono (by decide)) ((hp ▸ h2).mono (by decide))]
      simp -implicitDefEqProofs only [EVc, Nat.reduceSub, Int.reduceLT, Int.reduceLE, Int.reduceEq, Int.reduceSub, Int.reduceAdd, Int.reduceMul, Int.reduceNeg, List.replicate, wipeE, List.replicate_zero, List.getElem?_cons_zero, List.getElem?_cons_succ, List.set_cons_succ, List.set_cons_zero, Option.map_some, if_true, if_false]
      rw [hs _ _ _ (h3.mono (by omega)) ((h1.mul (hp ▸ h2)).mono (by decide))]
      simp -implicitDefEqProofs only [EVc, Nat.reduceSub, Int.reduceLT, Int.reduceLE, Int.reduceEq, Int.reduceSub, Int.reduceAdd, Int.reduceMul, Int.reduceNeg, List.replicate, wipeE, List.replicate_zero, List.getElem?_cons_zero, List.getElem?_cons_succ, List.set_cons_succ, List.set_cons_zero, Option.map_some, if_true, if_false]
      rw [set_okI (i := 0) (k := 0) rfl (by rw [List.length_map, List.length_set]; omega), map_setF]
      simp -implicitDefEqProofs only [EVc, Nat.reduceSub, Int.reduceLT, Int.reduceLE, Int.reduceEq, Int.reduceSub, Int.reduceAdd, Int.reduceMul, Int.reduceNeg, List.replicate, wipeE, List.replicate_zero, List.getElem?_cons_zero, List.getElem?_cons_succ, List.set_cons_succ, List.set_cons_zero, Option.map_some, if_true, if_false]
      have e : (dn ++ [k]).foldl (stepD ps am) held = (H.set (k + 1) ((H.getD (k + 1) Fr.zero).add (am.getD k Fr.zero))).set 0 ((H.getD 0 Fr.zero).sub ((am.getD k Fr.zero).mul (prc ps am k))) := by
        rw [List.foldl_append, hq]; rfl
      rw [e, hp]
      exact ⟨by rw [← hd]; simp, _, _, _, rfl⟩
  · intro dn ρ S' hI
    obtain ⟨hS, hd, c4, c5, c6, hρ⟩ := hI
    subst hS; subst hρ
    rw [List.append_nil] at hd
    simp -implicitDefEqProofs only [EVc, Nat.reduceSub, Int.reduceLT, Int.reduceLE, Int.reduceEq, Int.reduceSub, Int.reduceAdd, Int.reduceMul, Int.reduceNeg, List.replicate, wipeE, List.replicate_zero, List.getElem?_cons_zero, List.getElem?_cons_succ, List.set_cons_succ, List.set_cons_zero, Option.map_some, if_true, if_false, tupleL]
    rw [hd]
    (try first | trivial | exact ⟨rfl, rfl⟩ | exact ⟨rfl, trivial⟩ | rfl)
/-! ### plans -/
abbrev Pln := List (Path × List Fr)
abbrev plv (x : Path × List Fr) : PV := .tup [pav x.1, .tup (x.2.map Fr.pv)]
abbrev lv (pl : Pln) : PV := .tup (pl.map plv)
def planP (g : Int) (ps : List Path) : Option Path → Pln → Bool
  | _, [] => true
  | o, x :: r => decide (x.1 ∈ ps) && (decide ((x.2.length : Int) = g - 1) && ((match o with | none => true | some q => decide (q < x.1)) && planP g ps (some x.1) r))
section
variable {S : Store}
theorem shps_pa (l : List Path) : shps (l.map pav) = true := shps_pas l
theorem in_pa {p : Path} {l : List Path} : pIn (pav p) (.lst (l.map pav)) = some (decide (p ∈ l)) := by
  show (if shp (pav p) && decide (dep (pav p) ≤ 64) && shps (l.map pav) then some ((l.map pav).any fun z => peqv z (pav p)) else none) = _
  rw [shp_pa, dep_pa, shps_pas]
  show some _ = _
  congr 1
  rw [List.any_map, Bool.eq_iff_iff, List.any_eq_true, decide_eq_true_eq]
  constructor
  · rintro ⟨x, hx, e⟩
    have e : peqv (pav x) (pav p) = true := e
    rw [peqv_pa, decide_eq_true_eq] at e
    subst e; exact hx
  · exact fun h => ⟨p, h, by show peqv (pav p) (pav p) = true; rw [peqv_pa]; exact decide_eq_true rfl⟩
theorem l2_notInP {p : Path} {l : List Path} : lift2 gNotIn (pav p) (.lst (l.map pav)) S = .ok (.bl (!decide (p ∈ l))) S := by
  show (match (pIn (pav p) (.lst (l.map pav))).map (fun b => PV.bl (!b)) with | some z => Res.ok z S | none => .bad) = _
  rw [in_pa]; rfl
theorem l2_geP {p q : Path} : lift2 gGe (pav p) (pav q) S = .ok (.bl (!decide (p < q))) S := by
  have e : ordOk (pav p) (pav q) = true := by
    show (shp (pav p) && decide (dep (pav p) ≤ 60) && (shp (pav q) && decide (dep (pav q) ≤ 60)) && pals _ _) = true
    rw [shp_pa, shp_pa, dep_pa, dep_pa, pals_pa]; rfl
  show (match (if ordOk (pav p) (pav q) then some (PV.bl (!plt (pav p) (pav q))) else none) with | some z => Res.ok z S | none => .bad) = _
  rw [e, plt_pa]; rfl
end
def CheckPlanOk (f : PF) : Prop := ∀ (n : Nd) (g : Int) (pl : Pln) S, n.Ok → pl.length ≤ 2000 → f [mkt g n, lv pl] S = if planP g ((pre [] n).map (·.1)) none pl = true then .ok .non S else .exc .plan S
theorem getLast_snoc (a : Pln) (x : Path × List Fr) : ((a ++ [x]).getLast?.map (·.1)) = some x.1 := by rw [List.getLast?_append]; rfl
theorem check_plan_F {f : PF} (hf : PathsOk f) : CheckPlanOk (F_check_plan f) := fun n g pl S h hl => by
  refine Sat.eqv ?_
  rw [A_check_plan]; unfold D_check_plan
  simp -implicitDefEqProofs only [EVc, Nat.reduceSub, Int.reduceLT, Int.reduceLE, Int.reduceEq, Int.reduceSub, Int.reduceAdd, Int.reduceMul, Int.reduceNeg, List.replicate, wipeE, List.replicate_zero, List.getElem?_cons_zero, List.getElem?_cons_succ, List.set_cons_succ, List.set_cons_zero, Option.map_some, if_true, if_false]
  rw [hf n g S h]
  have em : ((pre [] n).map fun x => pav x.1) = ((pre [] n).map (·.1)).map pav := by rw [List.map_map]; rfl
  rw [em]
  generalize (pre [] n).map (·.1) = ps
  simp -implicitDefEqProofs only [EVc, Nat.reduceSub, Int.reduceLT, Int.reduceLE, Int.reduceEq, Int.reduceSub, Int.reduceAdd, Int.reduceMul, Int.reduceNeg, List.replicate, wipeE, List.replicate_zero, List.getElem?_cons_zero, List.getElem?_cons_succ, List.set_cons_succ, List.set_cons_zero, Option.map_some, if_true, if_false, List.length_map]
  rw [rng1F_n (by omega)]
  simp -implicitDefEqProofs only [EVc, Nat.reduceSub, Int.reduceLT, Int.reduceLE, Int.reduceEq, Int.reduceSub, Int.reduceAdd, Int.reduceMul, Int.reduceNeg, List.replicate, wipeE, List.replicate_zero, List.getElem?_cons_zero, List.getElem?_cons_succ, List.set_cons_succ, List.set_cons_zero, Option.map_some, if_true, if_false]
  refine SatF_for (fun (k : Nat) => PV.int k) (fun dn l ρ S' => S = S' ∧ ∃ (a b : Pln) (c3 c4 c5 : Cell), pl = a ++ b ∧ l = List.range' a.length b.length ∧ planP g ps none pl = planP g ps (a.getLast?.map (·.1)) b ∧ ρ = [.fz (mkt g n), .fz (lv pl), .fz (.lst (ps.map pav)), c3, c4, c5]) (List.range pl.length) [] _ _ ⟨rfl, [], pl, .un, .un, .un, rfl, by rw [List.range_eq_range']; rfl, rfl, rfl⟩ ?_ ?_
  · rintro dn k l ρ S' ⟨hS, a, b, c3, c4, c5, hp, hr, hq, rfl⟩
    subst hS
    refine ⟨_, rfl, ?_⟩
    cases b with
    | nil => cases hr
    | cons x b =>
    rw [List.length_cons, List.range'_succ] at hr
    obtain ⟨rfl, rfl⟩ := List.cons.inj hr
    have i1 : lift2 gIx (lv pl) (.int (a.length : Int)) S = .ok (plv x) S := ixT (by rw [List.getElem?_map, hp, List.getElem?_append_right (Nat.le_refl _), Nat.sub_self]; rfl)
    simp -implicitDefEqProofs only [EVc, Nat.reduceSub, Int.reduceLT, Int.reduceLE, Int.reduceEq, Int.reduceSub, Int.reduceAdd, Int.reduceMul, Int.reduceNeg, List.replicate, wipeE, List.replicate_zero, List.getElem?_cons_zero, List.getElem?_cons_succ, List.set_cons_succ, List.set_cons_zero, Option.map_some, if_true, if_false, i1, l2_notInP, List.length_map]
    have go : planP g ps none pl = (decide (x.1 ∈ ps) && (decide ((x.2.length : Int) = g - 1) && ((match a.getLast?.map (·.1) with | none => true | some q => decide (q < x.1)) && planP g ps (some x.1) b))) := hq
    have bad : planP g ps none pl = false → (if planP g ps none pl = true then Res.ok PV.non S else Res.exc Err.plan S) = Res.exc Err.plan S := fun e => by rw [e]; rfl
    have nxt : planP g ps none pl = planP g ps (some x.1) b → ∃ (a_1 b_1 : Pln) (c3 c4 c5 : Cell), pl = a_1 ++ b_1 ∧ List.range' (List.length a + 1) b.length = List.range' (List.length a_1) (List.length b_1) ∧ planP g ps none pl = planP g ps (Option.map (fun x => x.fst) (List.getLast? a_1)) b_1 ∧ [Cell.fz (mkt g n), Cell.fz (lv pl), Cell.fz (PV.lst (List.map pav ps)), Cell.fz (PV.int ↑(List.length a)), Cell.fz (pav x.fst), Cell.fz (PV.tup (List.map Fr.pv x.snd))] = [Cell.fz (mkt g n), Cell.fz (lv pl), Cell.fz (PV.lst (List.map pav ps)), c3, c4, c5] := fun e =>
      ⟨a ++ [x], b, _, _, _, by rw [hp]; simp, by rw [List.length_append, List.length_singleton], by rw [getLast_snoc]; exact e, rfl⟩
    by_cases h1 : x.1 ∈ ps
    · rw [decide_eq_true h1, Bool.true_and] at go
      simp -implicitDefEqProofs only [EVc, Nat.reduceSub, Int.reduceLT, Int.reduceLE, Int.reduceEq, Int.reduceSub, Int.reduceAdd, Int.reduceMul, Int.reduceNeg, List.replicate, wipeE, List.replicate_zero, List.getElem?_cons_zero, List.getElem?_cons_succ, List.set_cons_succ, List.set_cons_zero, Option.map_some, if_true, if_false, h1]
      by_cases h2 : (x.2.length : Int) = g - 1
      · rw [decide_eq_true h2, Bool.true_and] at go
        simp -implicitDefEqProofs only [EVc, Nat.reduceSub, Int.reduceLT, Int.reduceLE, Int.reduceEq, Int.reduceSub, Int.reduceAdd, Int.reduceMul, Int.reduceNeg, List.replicate, wipeE, List.replicate_zero, List.getElem?_cons_zero, List.getElem?_cons_succ, List.set_cons_succ, List.set_cons_zero, Option.map_some, if_true, if_false, h2]
        rcases List.eq_nil_or_concat a with rfl | ⟨a, y, rfl⟩
        · rw [if_neg (by show ¬ (0 : Int) < ((0 : Nat) : Int); decide)]
          exact nxt go
        · rw [List.concat_eq_append] at *
          rw [getLast_snoc] at go
          have e1 : ((a ++ [y]).length : Int) - 1 = (a.length : Int) := by rw [List.length_append, List.length_singleton]; omega
          have i2 : lift2 gIx (lv pl) (.int (((a ++ [y]).length : Int) - 1)) S = .ok (plv y) S := ixTe e1 (by rw [List.getElem?_map, hp, List.append_assoc, List.getElem?_append_right (Nat.le_refl _), Nat.sub_self]; rfl)
          rw [if_pos (by rw [List.length_append, List.length_singleton]; omega)]
          simp -implicitDefEqProofs only [EVc, Nat.reduceSub, Int.reduceLT, Int.reduceLE, Int.reduceEq, Int.reduceSub, Int.reduceAdd, Int.reduceMul, Int.reduceNeg, List.replicate, wipeE, List.replicate_zero, List.getElem?_cons_zero, List.getElem?_cons_succ, List.set_cons_succ, List.set_cons_zero, Option.map_some, if_true, if_false, i2, l2_geP]
          by_cases h3 : y.1 < x.1
          · have go : planP g ps none pl = (decide (y.1 < x.1) && planP g ps (some x.1) b) := go
            rw [decide_eq_true h3, Bool.true_and] at go
            simp -implicitDefEqProofs only [EVc, Nat.reduceSub, Int.reduceLT, Int.reduceLE, Int.reduceEq, Int.reduceSub, Int.reduceAdd, Int.reduceMul, Int.reduceNeg, List.replicate, wipeE, List.replicate_zero, List.getElem?_cons_zero, List.getElem?_cons_succ, List.set_cons_succ, List.set_cons_zero, Option.map_some, if_true, if_false, h3]
            exact nxt go
          · have go : planP g ps none pl = (decide (y.1 < x.1) && planP g ps (some x.1) b) := go
            rw [decide_eq_false h3, Bool.false_and] at go
            simp -implicitDefEqProofs only [EVc, Nat.reduceSub, Int.reduceLT, Int.reduceLE, Int.reduceEq, Int.reduceSub, Int.reduceAdd, Int.reduceMul, Int.reduceNeg, List.replicate, wipeE, List.replicate_zero, List.getElem?_cons_zero, List.getElem?_cons_succ, List.set_cons_succ, List.set_cons_zero, Option.map_some, if_true, if_false, h3]
            exact bad go
      · rw [decide_eq_false h2, Bool.false_and] at go
        simp -implicitDefEqProofs only [EVc, Nat.reduceSub, Int.reduceLT, Int.reduceLE, Int.reduceEq, Int.reduceSub, Int.reduceAdd, Int.reduceMul, Int.reduceNeg, List.replicate, wipeE, List.replicate_zero, List.getElem?_cons_zero, List.getElem?_cons_succ, List.set_cons_succ, List.set_cons_zero, Option.map_some, if_true, if_false, h2]
        exact bad go
    · rw [decide_eq_false h1, Bool.false_and] at go
      simp -implicitDefEqProofs only [EVc, Nat.reduceSub, Int.reduceLT, Int.reduceLE, Int.reduceEq, Int.reduceSub, Int.reduceAdd, Int.reduceMul, Int.reduceNeg, List.replicate, wipeE, List.replicate_zero, List.getElem?_cons_zero, List.getElem?_cons_succ, List.set_cons_succ, List.set_cons_zero, Option.map_some, if_true, if_false, h1]
      exact bad go
  · intro dn ρ S' hI
    obtain ⟨hS, a, b, c3, c4, c5, hp, hr, hq, hρ⟩ := hI
    subst hS; subst hρ
    cases b with
    | cons x b => rw [List.length_cons, List.range'_succ] at hr; cases hr
    | nil =>
    simp -implicitDefEqProofs only [EVc, Nat.reduceSub, Int.reduceLT, Int.reduceLE, Int.reduceEq, Int.reduceSub, Int.reduceAdd, Int.reduceMul, Int.reduceNeg, List.replicate, wipeE, List.replicate_zero, List.getElem?_cons_zero, List.getElem?_cons_succ, List.set_cons_succ, List.set_cons_zero, Option.map_some, if_true, if_false]
    rw [hq]; rfl
/-! ### how many deals -/
theorem asc_len : ∀ (l : List Nat) (a m : Nat), l.Pairwise (· < ·) → (∀ x ∈ l, a ≤ x ∧ x ≤ m) → l.length ≤ m + 1 - a
  | [], a, m, _, _ => Nat.zero_le _
  | x :: l, a, m, h, hb => by
    obtain ⟨h1, h2⟩ := List.pairwise_cons.mp h
    have hx := hb x List.mem_cons_self
    have := asc_len l (x + 1) m h2 fun y hy => ⟨h1 y hy, (hb y (List.mem_cons_of_mem _ hy)).2⟩
    rw [List.length_cons]; omega
def isPre (e p : Path) : Bool := decide (p = e.take p.length)
theorem pre_lt {e p q : Path} (hp : isPre e p = true) (hq : isPre e q = true) (h : p < q) : p.length < q.length := by
  have hp := of_decide_eq_true hp
  have hq := of_decide_eq_true hq
  rcases Nat.lt_or_ge p.length q.length with hl | hl
  · exact hl
  exfalso
  have e1 : q = p.take q.length := by
    rw [hp, List.take_take, Nat.min_eq_left hl]; exact hq
  have e2 : p = q ++ p.drop q.length := by
    have := List.take_append_drop q.length p
    rw [← e1] at this; exact this.symm
  cases er : p.drop q.length with
  | nil => rw [er, List.append_nil] at e2; rw [e2] at h; exact List.lt_irrefl _ h
  | cons c r =>
    rw [er] at e2
    have := lt_app_cons q c r
    rw [← e2] at this
    exact List.lt_irrefl _ (List.lt_trans h this)
theorem deals_le {e : Path} {pl : Pln} (h : pl.Pairwise fun a b => a.1 < b.1) : (pl.filter fun x => isPre e x.1).length ≤ e.length + 1 := by
  have h1 : ((pl.filter fun x => isPre e x.1).map fun x => x.1.length).Pairwise (· < ·) := by
    rw [List.pairwise_map]
    have := h.filter fun x => isPre e x.1
    refine List.Pairwise.imp_of_mem (fun {a b} ha hb hab => ?_) this
    exact pre_lt (List.mem_filter.mp ha).2 (List.mem_filter.mp hb).2 hab
  have := asc_len _ 0 e.length h1 fun x hx => by
    obtain ⟨y, hy, rfl⟩ := List.mem_map.mp hx
    refine ⟨Nat.zero_le _, ?_⟩
    have := of_decide_eq_true (List.mem_filter.mp hy).2
    have := congrArg List.length this
    rw [List.length_take] at this
    omega
  rw [List.length_map] at this
  omega
/-! ### holdings -/
def dealAt (n : Nd) (e : Path) (held : List Fr) (x : Path × List Fr) : List Fr := if isPre e x.1 = true then (match findN n x.1 with | some m => deal m.prices held x.2 | none => held) else held
def heldF (n : Nd) (start : List Fr) (pl : Pln) (e : Path) : List Fr := pl.foldl (dealAt n e) start
def rowF (n : Nd) (start : List Fr) (pl : Pln) (x : Path × Nd) : PV := .tup [pav x.1, .tup ((heldF n start pl x.1).map Fr.pv)]
abbrev endsL (n : Nd) : List (Path × Nd) := (pre [] n).filter isEnd
structure PlnG (g : Nat) (n : Nd) (pl : Pln) : Prop where
  asc : pl.Pairwise fun a b => a.1 < b.1
  at_ : ∀ x ∈ pl, ∃ m, findN n x.1 = some m ∧ m.prices.length = g ∧ ∀ p ∈ m.prices, bdP 200 p
  len : ∀ x ∈ pl, x.2.length + 1 = g
  bd : ∀ x ∈ pl, ∀ a ∈ x.2, a.bd 4
  g4 : g ≤ 4
  many : pl.length ≤ 1000
  deep : ∀ x ∈ endsL n, x.1.length ≤ 2
theorem PlnG.deal {g : Nat} {n m : Nd} {pl : Pln} (h : PlnG g n pl) {x : Path × List Fr} (hx : x ∈ pl) (hm : findN n x.1 = some m) : DealG m.prices x.2 := by
  obtain ⟨m', h1, h2, h3⟩ := h.at_ x hx
  rw [h1] at hm; cases hm
  have h4 := h.len x hx
  have h5 := h.g4
  exact ⟨h3, h.bd x hx, by omega, by omega⟩
theorem held_bd {g : Nat} {n : Nd} {pl : Pln} (h : PlnG g n pl) (e : Path) : ∀ (l : Pln) (held : List Fr) (j : Nat), (∀ x ∈ l, x ∈ pl) → (∀ a ∈ held, a.bd j) → held.length = g → (∀ a ∈ l.foldl (dealAt n e) held, a.bd (j + 618 * (l.filter fun x => isPre e x.1).length)) ∧ (l.foldl (dealAt n e) held).length = g
  | [], held, j, _, hh, hl => ⟨fun a ha => (hh a ha).mono (by omega), hl⟩
  | x :: l, held, j, hs, hh, hl => by
    have hx := hs x List.mem_cons_self
    have hs' : ∀ y ∈ l, y ∈ pl := fun y hy => hs y (List.mem_cons_of_mem _ hy)
    obtain ⟨m, h1, h2, h3⟩ := h.at_ x hx
    by_cases hp : isPre e x.1 = true
    · have e1 : dealAt n e held x = deal m.prices held x.2 := by unfold dealAt; rw [if_pos hp, h1]
      obtain ⟨b1, b2⟩ := deal_bd (h.deal hx h1) hh (by have := h.len x hx; omega)
      obtain ⟨c1, c2⟩ := held_bd h e l (deal m.prices held x.2) (j + 618) hs' b1 (by rw [b2]; exact h.len x hx)
      rw [List.foldl_cons, e1, List.filter_cons_of_pos (p := fun (x : Path × List Fr) => isPre e x.1) hp, List.length_cons]
      exact ⟨fun a ha => (c1 a ha).mono (by omega), c2⟩
    · have e1 : dealAt n e held x = held := by unfold dealAt; rw [if_neg hp]
      rw [List.foldl_cons, e1, List.filter_cons_of_neg (p := fun (x : Path × List Fr) => isPre e x.1) hp]
      exact held_bd h e l held j hs' hh hl
theorem cut_toA {xs : List PV} {k : Nat} : cutP xs none (some (k : Int)) = xs.take k := by
  rcases Nat.lt_or_ge xs.length k with h | h
  · unfold cutP
    rw [HT.sIx_none, HT.sIx_nat, Nat.min_eq_right (by omega)]
    simp
    rw [List.take_of_length_le (by omega)]
  · exact cut_to h
theorem pa_take {e : Path} {k : Nat} : PV.tup ((e.map fun (k : Nat) => PV.int k).take k) = pav (e.take k) := by rw [← List.map_take]
theorem PricesOk.at {f : PF} (h : PricesOk f) {n m : Nd} {g : Int} {p : Path} {S : Store} (hn : n.Ok) (e : findN n p = some m) : f [mkt g n, pav p] S = .ok (.tup (m.prices.map ppv)) S := by
  have := h n g (p.map fun (k : Nat) => (k : Int)) S hn
  rw [pai_nat, findI_nat, e] at this
  exact this
def HoldOfOk (f : PF) : Prop := ∀ (n : Nd) (g : Nat) (start : List Fr) (pl : Pln) S, n.Ok → PlnG g n pl → (∀ a ∈ start, a.bd 4) → start.length = g → f [mkt (g : Int) n, .tup (start.map Fr.pv), lv pl] S = .ok (.tup ((endsL n).map (rowF n start pl))) S
theorem ends_le {n : Nd} (h : n.Ok) : (endsL n).length ≤ 1000 := by
  have := h.many
  have := List.length_filter_le isEnd (pre [] n)
  show (List.filter isEnd (pre [] n)).length ≤ _
  omega
theorem holdings_of_F {e t p : PF} (he : EndsOk e) (ht : DealOk t) (hp : PricesOk p) : HoldOfOk (F_holdings_of e t p) := fun n g start pl S h hg hs hl => by
  refine Sat.eq ?_
  rw [A_holdings_of]; unfold D_holdings_of
  have zz : 2000 ≤ sz := by decide
  have hel := ends_le h
  simp -implicitDefEqProofs only [EVc, Nat.reduceSub, Int.reduceLT, Int.reduceLE, Int.reduceEq, Int.reduceSub, Int.reduceAdd, Int.reduceMul, Int.reduceNeg, List.replicate, wipeE, List.replicate_zero, List.getElem?_cons_zero, List.getElem?_cons_succ, List.set_cons_succ, List.set_cons_zero, Option.map_some, if_true, if_false]
  rw [he n (g : Int) S h]
  simp -implicitDefEqProofs only [EVc, Nat.reduceSub, Int.reduceLT, Int.reduceLE, Int.reduceEq, Int.reduceSub, Int.reduceAdd, Int.reduceMul, Int.reduceNeg, List.replicate, wipeE, List.replicate_zero, List.getElem?_cons_zero, List.getElem?_cons_succ, List.set_cons_succ, List.set_cons_zero, Option.map_some, if_true, if_false]
  refine SatF_for (fun (x : Path × Nd) => pav x.1) (fun dn l ρ S' => S = S' ∧ dn ++ l = endsL n ∧ ∃ c4 c5 c6 c7, ρ = [.fz (mkt (g : Int) n), .fz (.tup (start.map Fr.pv)), .fz (lv pl), .ow (.lst (dn.map (rowF n start pl))), c4, c5, c6, c7]) (endsL n) [] _ _ ⟨rfl, rfl, .un, .un, .un, .un, rfl⟩ ?_ ?_
  · rintro dn x l ρ S' ⟨hS, hd, c4, c5, c6, c7, rfl⟩
    subst hS
    refine ⟨_, rfl, ?_⟩
    have hx : x ∈ endsL n := by rw [← hd]; simp
    have hlen : dn.length < 1000 := by
      have := congrArg List.length hd
      rw [List.length_append, List.length_cons] at this
      omega
    simp -implicitDefEqProofs only [EVc, Nat.reduceSub, Int.reduceLT, Int.reduceLE, Int.reduceEq, Int.reduceSub, Int.reduceAdd, Int.reduceMul, Int.reduceNeg, List.replicate, wipeE, List.replicate_zero, List.getElem?_cons_zero, List.getElem?_cons_succ, List.set_cons_succ, List.set_cons_zero, Option.map_some, if_true, if_false, tupleT]
    refine SatF_for plv (fun dn2 l2 ρ S' => S = S' ∧ dn2 ++ l2 = pl ∧ ∃ c6 c7, ρ = [.fz (mkt (g : Int) n), .fz (.tup (start.map Fr.pv)), .fz (lv pl), .ow (.lst (dn.map (rowF n start pl))), .fz (pav x.1), .fz (.tup ((dn2.foldl (dealAt n x.1) start).map Fr.pv)), c6, c7]) pl [] _ _ ⟨rfl, rfl, c6, c7, rfl⟩ ?_ ?_
    · rintro dn2 y l2 ρ S' ⟨hS, hd2, c6, c7, rfl⟩
      subst hS
      refine ⟨_, rfl, ?_⟩
      have hy : y ∈ pl := by rw [← hd2]; simp
      simp -implicitDefEqProofs only [EVc, Nat.reduceSub, Int.reduceLT, Int.reduceLE, Int.reduceEq, Int.reduceSub, Int.reduceAdd, Int.reduceMul, Int.reduceNeg, List.replicate, wipeE, List.replicate_zero, List.getElem?_cons_zero, List.getElem?_cons_succ, List.set_cons_succ, List.set_cons_zero, Option.map_some, if_true, if_false, List.length_map]
      rw [cut_toA, pa_take]
      simp -implicitDefEqProofs only [EVc, Nat.reduceSub, Int.reduceLT, Int.reduceLE, Int.reduceEq, Int.reduceSub, Int.reduceAdd, Int.reduceMul, Int.reduceNeg, List.replicate, wipeE, List.replicate_zero, List.getElem?_cons_zero, List.getElem?_cons_succ, List.set_cons_succ, List.set_cons_zero, Option.map_some, if_true, if_false, eq_pa]
      have hfold : (dn2 ++ [y]).foldl (dealAt n x.1) start = dealAt n x.1 (dn2.foldl (dealAt n x.1) start) y := by rw [List.foldl_append]; rfl
      by_cases hpre : y.1 = x.1.take y.1.length
      · obtain ⟨m, h1, h2, h3⟩ := hg.at_ y hy
        have hpr : isPre x.1 y.1 = true := decide_eq_true hpre
        have e1 : dealAt n x.1 (dn2.foldl (dealAt n x.1) start) y = deal m.prices (dn2.foldl (dealAt n x.1) start) y.2 := by unfold dealAt; rw [if_pos hpr, h1]
        obtain ⟨b1, b2⟩ := held_bd hg x.1 dn2 start 4 (fun z hz => by rw [← hd2]; exact List.mem_append_left _ hz) hs hl
        have cnt := deals_le (e := x.1) hg.asc
        rw [← hd2, List.filter_append, List.filter_cons_of_pos (p := fun (z : Path × List Fr) => isPre x.1 z.1) hpr, List.length_append, List.length_cons] at cnt
        have hdp := hg.deep x hx
        rw [if_pos hpre]
        rw [hp.at h h1]
        simp -implicitDefEqProofs only [EVc, Nat.reduceSub, Int.reduceLT, Int.reduceLE, Int.reduceEq, Int.reduceSub, Int.reduceAdd, Int.reduceMul, Int.reduceNeg, List.replicate, wipeE, List.replicate_zero, List.getElem?_cons_zero, List.getElem?_cons_succ, List.set_cons_succ, List.set_cons_zero, Option.map_some, if_true, if_false]
        rw [ht m.prices _ y.2 _ S (hg.deal hy h1) b1 (by rw [b2]; exact (hg.len y hy).symm) (by omega)]
        simp -implicitDefEqProofs only [EVc, Nat.reduceSub, Int.reduceLT, Int.reduceLE, Int.reduceEq, Int.reduceSub, Int.reduceAdd, Int.reduceMul, Int.reduceNeg, List.replicate, wipeE, List.replicate_zero, List.getElem?_cons_zero, List.getElem?_cons_succ, List.set_cons_succ, List.set_cons_zero, Option.map_some, if_true, if_false]
        rw [hfold, e1]
        exact ⟨by rw [← hd2]; simp, _, _, rfl⟩
      · have e1 : dealAt n x.1 (dn2.foldl (dealAt n x.1) start) y = dn2.foldl (dealAt n x.1) start := by unfold dealAt; rw [if_neg (by unfold isPre; rw [decide_eq_false hpre]; exact Bool.noConfusion)]
        rw [if_neg hpre]
        rw [hfold, e1]
        exact ⟨by rw [← hd2]; simp, _, _, rfl⟩
    · intro dn2 ρ S' hI
      obtain ⟨hS, hd2, c6, c7, hρ⟩ := hI
      subst hS; subst hρ
      rw [List.append_nil] at hd2
      subst hd2
      simp -implicitDefEqProofs only [EVc, Nat.reduceSub, Int.reduceLT, Int.reduceLE, Int.reduceEq, Int.reduceSub, Int.reduceAdd, Int.reduceMul, Int.reduceNeg, List.replicate, wipeE, List.replicate_zero, List.getElem?_cons_zero, List.getElem?_cons_succ, List.set_cons_succ, List.set_cons_zero, Option.map_some, if_true, if_false]
      rw [push_ok (by rw [List.length_map]; omega)]
      simp -implicitDefEqProofs only [EVc, Nat.reduceSub, Int.reduceLT, Int.reduceLE, Int.reduceEq, Int.reduceSub, Int.reduceAdd, Int.reduceMul, Int.reduceNeg, List.replicate, wipeE, List.replicate_zero, List.getElem?_cons_zero, List.getElem?_cons_succ, List.set_cons_succ, List.set_cons_zero, Option.map_some, if_true, if_false]
      exact ⟨by rw [← hd]; simp, _, _, _, _, by rw [List.map_append (l₁ := dn)]; rfl⟩
  · intro dn ρ S' hI
    obtain ⟨hS, hd, c4, c5, c6, c7, hρ⟩ := hI
    subst hS; subst hρ
    rw [List.append_nil] at hd
    subst hd
    simp -implicitDefEqProofs only [EVc, Nat.reduceSub, Int.reduceLT, Int.reduceLE, Int.reduceEq, Int.reduceSub, Int.reduceAdd, Int.reduceMul, Int.reduceNeg, List.replicate, wipeE, List.replicate_zero, List.getElem?_cons_zero, List.getElem?_cons_succ, List.set_cons_succ, List.set_cons_zero, Option.map_some, if_true, if_false, tupleL]
    (try first | trivial | exact ⟨rfl, rfl⟩ | exact ⟨rfl, trivial⟩ | rfl)
def holdingsR (g : Int) (n : Nd) (start : List Fr) (pl : Pln) (S : Store) : Res PV :=
  if planP g ((pre [] n).map (·.1)) none pl = true ∧ (start.length : Int) = g then .ok (.tup ((endsL n).map (rowF n start pl))) S else .exc .plan S
def HoldOk (f : PF) : Prop := ∀ (n : Nd) (g : Nat) (start : List Fr) (pl : Pln) S, n.Ok → chk (g : Int) n = none → pl.length ≤ 1000 → (planP (g : Int) ((pre [] n).map (·.1)) none pl = true → start.length = g → PlnG g n pl ∧ ∀ a ∈ start, a.bd 4) → f [mkt (g : Int) n, .tup (start.map Fr.pv), lv pl] S = holdingsR (g : Int) n start pl S
theorem holdings_F {c k o : PF} (hc : CheckMOk c) (hk : CheckPlanOk k) (ho : HoldOfOk o) : HoldOk (F_holdings c k o) := fun n g start pl S h h0 hm hg => by
  refine Sat.eqv ?_
  rw [A_holdings]; unfold D_holdings holdingsR
  simp -implicitDefEqProofs only [EVc, Nat.reduceSub, Int.reduceLT, Int.reduceLE, Int.reduceEq, Int.reduceSub, Int.reduceAdd, Int.reduceMul, Int.reduceNeg, List.replicate, wipeE, List.replicate_zero, List.getElem?_cons_zero, List.getElem?_cons_succ, List.set_cons_succ, List.set_cons_zero, Option.map_some, if_true, if_false]
  rw [hc (g : Int) n S h, h0]
  simp -implicitDefEqProofs only [EVc, Nat.reduceSub, Int.reduceLT, Int.reduceLE, Int.reduceEq, Int.reduceSub, Int.reduceAdd, Int.reduceMul, Int.reduceNeg, List.replicate, wipeE, List.replicate_zero, List.getElem?_cons_zero, List.getElem?_cons_succ, List.set_cons_succ, List.set_cons_zero, Option.map_some, if_true, if_false]
  rw [hk n (g : Int) pl S h (by omega)]
  by_cases h1 : planP (g : Int) ((pre [] n).map (·.1)) none pl = true
  · rw [if_pos h1]
    simp -implicitDefEqProofs only [EVc, Nat.reduceSub, Int.reduceLT, Int.reduceLE, Int.reduceEq, Int.reduceSub, Int.reduceAdd, Int.reduceMul, Int.reduceNeg, List.replicate, wipeE, List.replicate_zero, List.getElem?_cons_zero, List.getElem?_cons_succ, List.set_cons_succ, List.set_cons_zero, Option.map_some, if_true, if_false, List.length_map]
    by_cases h2 : (start.length : Int) = g
    · simp -implicitDefEqProofs only [EVc, Nat.reduceSub, Int.reduceLT, Int.reduceLE, Int.reduceEq, Int.reduceSub, Int.reduceAdd, Int.reduceMul, Int.reduceNeg, List.replicate, wipeE, List.replicate_zero, List.getElem?_cons_zero, List.getElem?_cons_succ, List.set_cons_succ, List.set_cons_zero, Option.map_some, if_true, if_false, h2]
      obtain ⟨g1, g2⟩ := hg h1 (by omega)
      rw [ho n g start pl S h g1 g2 (by omega)]
      simp -implicitDefEqProofs only [EVc, Nat.reduceSub, Int.reduceLT, Int.reduceLE, Int.reduceEq, Int.reduceSub, Int.reduceAdd, Int.reduceMul, Int.reduceNeg, List.replicate, wipeE, List.replicate_zero, List.getElem?_cons_zero, List.getElem?_cons_succ, List.set_cons_succ, List.set_cons_zero, Option.map_some, if_true, if_false]
      exact if_pos h1
    · simp -implicitDefEqProofs only [EVc, Nat.reduceSub, Int.reduceLT, Int.reduceLE, Int.reduceEq, Int.reduceSub, Int.reduceAdd, Int.reduceMul, Int.reduceNeg, List.replicate, wipeE, List.replicate_zero, List.getElem?_cons_zero, List.getElem?_cons_succ, List.set_cons_succ, List.set_cons_zero, Option.map_some, if_true, if_false, h2]
      rw [if_neg (fun h => h.2)]
  · rw [if_neg h1]
    simp -implicitDefEqProofs only [EVc, Nat.reduceSub, Int.reduceLT, Int.reduceLE, Int.reduceEq, Int.reduceSub, Int.reduceAdd, Int.reduceMul, Int.reduceNeg, List.replicate, wipeE, List.replicate_zero, List.getElem?_cons_zero, List.getElem?_cons_succ, List.set_cons_succ, List.set_cons_zero, Option.map_some, if_true, if_false]
    rw [if_neg (fun h => h1 h.1)]
theorem planP_ok {g : Nat} {ps : List Path} : ∀ (pl : Pln) (o : Option Path), pl.Pairwise (fun a b => a.1 < b.1) → (∀ q, o = some q → ∀ x ∈ pl, q < x.1) → (∀ x ∈ pl, x.1 ∈ ps) → (∀ x ∈ pl, x.2.length + 1 = g) → planP (g : Int) ps o pl = true
  | [], o, _, _, _, _ => rfl
  | x :: r, o, h, ho, hp, hl => by
    obtain ⟨h1, h2⟩ := List.pairwise_cons.mp h
    unfold planP
    rw [decide_eq_true (hp x List.mem_cons_self), decide_eq_true (show (x.2.length : Int) = g - 1 by have := hl x List.mem_cons_self; omega), Bool.true_and, Bool.true_and]
    rw [planP_ok r (some x.1) h2 (fun q e y hy => by cases e; exact h1 y hy) (fun y hy => hp y (List.mem_cons_of_mem _ hy)) (fun y hy => hl y (List.mem_cons_of_mem _ hy)), Bool.and_true]
    cases o with
    | none => rfl
    | some q => exact decide_eq_true (ho q rfl x List.mem_cons_self)
/-! ### a part -/
def PartOk (f : PF) : Prop := ∀ R S (m : Int), Dr R S → 0 ≤ m → m ≤ 7 → Sat (f [.ref 0, .int m] S) (fun v S' => ∃ a : Fr, v = a.pv ∧ a.bd 4 ∧ a.red ∧ Dr R S') noE
theorem part_F {f s t : PF} (hf : FFrac f) (hs : SignedOk s) (ht : TakeOk t) : PartOk (F_law_part f s t) := fun R S m hd h0 h7 => by
  rw [A_law_part]; unfold D_law_part
  obtain ⟨r, S1, e1, h1, h2, d1⟩ := hs R S (m * 2) hd (by omega) (by omega)
  obtain ⟨q, S2, e2, h3, h4, d2⟩ := ht R S1 3 d1 (by decide) (by decide +kernel)
  simp -implicitDefEqProofs only [EVc, Nat.reduceSub, Int.reduceLT, Int.reduceLE, Int.reduceEq, Int.reduceSub, Int.reduceAdd, Int.reduceMul, Int.reduceNeg, List.replicate, wipeE, List.replicate_zero, List.getElem?_cons_zero, List.getElem?_cons_succ, List.set_cons_succ, List.set_cons_zero, Option.map_some, if_true, if_false]
  rw [l2_mul (okI_small (by omega)) (okI_small (by decide))]
  simp -implicitDefEqProofs only [EVc, Nat.reduceSub, Int.reduceLT, Int.reduceLE, Int.reduceEq, Int.reduceSub, Int.reduceAdd, Int.reduceMul, Int.reduceNeg, List.replicate, wipeE, List.replicate_zero, List.getElem?_cons_zero, List.getElem?_cons_succ, List.set_cons_succ, List.set_cons_zero, Option.map_some, if_true, if_false]
  rw [e1]
  simp -implicitDefEqProofs only [EVc, Nat.reduceSub, Int.reduceLT, Int.reduceLE, Int.reduceEq, Int.reduceSub, Int.reduceAdd, Int.reduceMul, Int.reduceNeg, List.replicate, wipeE, List.replicate_zero, List.getElem?_cons_zero, List.getElem?_cons_succ, List.set_cons_succ, List.set_cons_zero, Option.map_some, if_true, if_false]
  rw [e2]
  simp -implicitDefEqProofs only [EVc, Nat.reduceSub, Int.reduceLT, Int.reduceLE, Int.reduceEq, Int.reduceSub, Int.reduceAdd, Int.reduceMul, Int.reduceNeg, List.replicate, wipeE, List.replicate_zero, List.getElem?_cons_zero, List.getElem?_cons_succ, List.set_cons_succ, List.set_cons_zero, Option.map_some, if_true, if_false]
  have hq : 1 + q ≠ 0 := by omega
  have lq : lt2 (1 + q) 8000 := lt2.mono (n := 2) (by unfold lt2; omega) (by decide)
  rw [hf _ _ _ hq lq]
  simp -implicitDefEqProofs only [EVc, Nat.reduceSub, Int.reduceLT, Int.reduceLE, Int.reduceEq, Int.reduceSub, Int.reduceAdd, Int.reduceMul, Int.reduceNeg, List.replicate, wipeE, List.replicate_zero, List.getElem?_cons_zero, List.getElem?_cons_succ, List.set_cons_succ, List.set_cons_zero, Option.map_some, if_true, if_false]
  refine ⟨fmk r (1 + q), rfl, fmk_bd hq (by unfold lt2; omega) (by unfold lt2; omega), fmk_red hq, d2⟩
end Py
/-! Markets made of markets. -/
namespace Py
open L2

/-! ### another row of prices at each moment -/
mutual
def Nd.mapP (φ : List PP → List PP) : Nd → Nd
  | .mk ps ks => .mk (φ ps) (Nd.mapPs φ ks)
def Nd.mapPs (φ : List PP → List PP) : List Nd → List Nd
  | [] => []
  | n :: r => n.mapP φ :: Nd.mapPs φ r
end
theorem mapPs_map (φ : List PP → List PP) : ∀ ks : List Nd, Nd.mapPs φ ks = ks.map (Nd.mapP φ)
  | [] => by rw [Nd.mapPs]; rfl
  | n :: r => by rw [Nd.mapPs, mapPs_map φ r]; rfl
section
variable {φ : List PP → List PP}
theorem mapP_ps (n : Nd) : (n.mapP φ).ps = φ n.ps := by cases n; rw [Nd.mapP]; rfl
theorem mapP_ks (n : Nd) : (n.mapP φ).ks = n.ks.map (Nd.mapP φ) := by cases n; rw [Nd.mapP, mapPs_map]; rfl
mutual
theorem pre_mapP (p : Path) : ∀ n : Nd, pre p (n.mapP φ) = (pre p n).map fun x => (x.1, x.2.mapP φ)
  | .mk ps ks => by rw [Nd.mapP, pre, pre, List.map_cons, pres_mapP p 0 ks, Nd.mapP]
theorem pres_mapP (p : Path) (i : Nat) : ∀ ks : List Nd, pres p i (Nd.mapPs φ ks) = (pres p i ks).map fun x => (x.1, x.2.mapP φ)
  | [] => by rw [Nd.mapPs, pres]; rfl
  | n :: r => by rw [Nd.mapPs, pres, pres, List.map_append, pre_mapP (p ++ [i]) n, pres_mapP p (i + 1) r]
end
theorem findN_mapP : ∀ (p : Path) (n : Nd), findN (n.mapP φ) p = (findN n p).map (Nd.mapP φ)
  | [], n => rfl
  | k :: p, n => by
    show (match (n.mapP φ).ks[k]? with | some m => findN m p | none => none) = (match n.ks[k]? with | some m => findN m p | none => none).map (Nd.mapP φ)
    rw [mapP_ks, List.getElem?_map]
    cases n.ks[k]? with
    | none => rfl
    | some m => exact findN_mapP p m
theorem mapP_ok {n : Nd} (h : n.Ok) (hn : ∀ x ∈ pre [] n, (∀ p ∈ φ x.2.ps, p.1.bd 3000 ∧ p.2.bd 3000) ∧ (φ x.2.ps).length ≤ 1000) : (n.mapP φ).Ok where
  many := by rw [pre_mapP, List.length_map]; exact h.many
  deep := fun x hx => by
    rw [pre_mapP] at hx
    obtain ⟨y, hy, rfl⟩ := List.mem_map.mp hx
    exact h.deep y hy
  nums := fun x hx p hp => by
    rw [pre_mapP] at hx
    obtain ⟨y, hy, rfl⟩ := List.mem_map.mp hx
    exact (hn y hy).1 p (by rw [← mapP_ps (φ := φ) y.2]; exact hp)
  goods := fun x hx => by
    rw [pre_mapP] at hx
    obtain ⟨y, hy, rfl⟩ := List.mem_map.mp hx
    show (y.2.mapP φ).ps.length ≤ 1000
    rw [mapP_ps]; exact (hn y hy).2
theorem mapP_id {g : Nat} (hφ : ∀ ps, PsOk g ps → φ ps = ps) : ∀ {h : Nat} {n : Nd}, Tree g h n → n.mapP φ = n
  | 0, .mk ps ks, t => by
    have : ks = [] := t.2
    subst this
    rw [Nd.mapP, Nd.mapPs, hφ ps t.1]
  | h + 1, .mk ps ks, t => by
    rw [Nd.mapP, mapPs_map, hφ ps t.1]
    congr 1
    have : ks.map (Nd.mapP φ) = ks.map id := List.map_congr_left fun m hm => mapP_id hφ (t.2.2.2 m hm)
    rw [this, List.map_id]
end
/-! ### wider -/
def wideP (a : Fr) (ps : List PP) : List PP := ps.map fun p => (p.1.mul a, p.2.div a)
def WideOk (h : Nat) (f : PF) : Prop := ∀ (g : Nat) (n : Nd) (a : Fr) S, Tree g h n → a.bd 10 → a.n ≠ 0 → f [n.pv, a.pv] S = .ok (n.mapP (wideP a)).pv S
theorem wider_F {h : Nat} {t o w : PF} (ht : FMul t) (ho : FDiv o) (hw : ∀ h', h = h' + 1 → WideOk h' w) : WideOk h (F_wider_node t o w) := fun g n a S tr ha h0 => by
  refine Sat.eq ?_
  rw [A_wider_node]; unfold D_wider_node
  have gd := tr.ps.good
  simp -implicitDefEqProofs only [EVc, Nat.reduceSub, Int.reduceLT, Int.reduceLE, Int.reduceEq, Int.reduceSub, Int.reduceAdd, Int.reduceMul, Int.reduceNeg, List.replicate, wipeE, List.replicate_zero, List.getElem?_cons_zero, List.getElem?_cons_succ, List.set_cons_succ, List.set_cons_zero, Option.map_some, if_true, if_false]
  rw [Nd.pv_eq]
  simp -implicitDefEqProofs only [EVc, Nat.reduceSub, Int.reduceLT, Int.reduceLE, Int.reduceEq, Int.reduceSub, Int.reduceAdd, Int.reduceMul, Int.reduceNeg, List.replicate, wipeE, List.replicate_zero, List.getElem?_cons_zero, List.getElem?_cons_succ, List.set_cons_succ, List.set_cons_zero, Option.map_some, if_true, if_false]
  rw [comp_map ppv (fun p => ppv (p.1.mul a, p.2.div a)) n.ps (fun p hp => ⟨_, rfl, by
    have := (gd p hp).bd
    simp -implicitDefEqProofs only [EVc, Nat.reduceSub, Int.reduceLT, Int.reduceLE, Int.reduceEq, Int.reduceSub, Int.reduceAdd, Int.reduceMul, Int.reduceNeg, List.replicate, wipeE, List.replicate_zero, List.getElem?_cons_zero, List.getElem?_cons_succ, List.set_cons_succ, List.set_cons_zero, Option.map_some, if_true, if_false]
    rw [ht _ _ _ (this.1.mono (by decide)) (ha.mono (by decide))]
    simp -implicitDefEqProofs only [EVc, Nat.reduceSub, Int.reduceLT, Int.reduceLE, Int.reduceEq, Int.reduceSub, Int.reduceAdd, Int.reduceMul, Int.reduceNeg, List.replicate, wipeE, List.replicate_zero, List.getElem?_cons_zero, List.getElem?_cons_succ, List.set_cons_succ, List.set_cons_zero, Option.map_some, if_true, if_false]
    rw [ho _ _ _ (this.2.mono (by decide)) (ha.mono (by decide)) h0]
    (try first | trivial | exact ⟨rfl, rfl⟩ | exact ⟨rfl, trivial⟩ | rfl)⟩)]
  simp -implicitDefEqProofs only [EVc, Nat.reduceSub, Int.reduceLT, Int.reduceLE, Int.reduceEq, Int.reduceSub, Int.reduceAdd, Int.reduceMul, Int.reduceNeg, List.replicate, wipeE, List.replicate_zero, List.getElem?_cons_zero, List.getElem?_cons_succ, List.set_cons_succ, List.set_cons_zero, Option.map_some, if_true, if_false]
  rw [comp_map Nd.pv (fun m => (m.mapP (wideP a)).pv) n.ks (fun m hm => ⟨_, rfl, by
    simp -implicitDefEqProofs only [EVc, Nat.reduceSub, Int.reduceLT, Int.reduceLE, Int.reduceEq, Int.reduceSub, Int.reduceAdd, Int.reduceMul, Int.reduceNeg, List.replicate, wipeE, List.replicate_zero, List.getElem?_cons_zero, List.getElem?_cons_succ, List.set_cons_succ, List.set_cons_zero, Option.map_some, if_true, if_false]
    cases h with
    | zero => rw [show n.ks = [] from tr.2] at hm; exact nomatch hm
    | succ h =>
      rw [hw h rfl g m a S (tr.2.2.2 m hm) ha h0]⟩)]
  simp -implicitDefEqProofs only [EVc, Nat.reduceSub, Int.reduceLT, Int.reduceLE, Int.reduceEq, Int.reduceSub, Int.reduceAdd, Int.reduceMul, Int.reduceNeg, List.replicate, wipeE, List.replicate_zero, List.getElem?_cons_zero, List.getElem?_cons_succ, List.set_cons_succ, List.set_cons_zero, Option.map_some, if_true, if_false]
  rw [Nd.pv_eq, mapP_ps, mapP_ks]
  unfold wideP
  rw [List.map_map, List.map_map]
  rfl
/-! ### turned -/
abbrev ord (o : List Nat) : PV := .tup (o.map fun (k : Nat) => PV.int k)
def turnP (r : List Nat) (ps : List PP) : List PP := r.map fun k => ps.getD (k - 1) (Fr.zero, Fr.zero)
def TurnOk (h : Nat) (f : PF) : Prop := ∀ (g : Nat) (n : Nd) (x : Nat) (r : List Nat) S, Tree g h n → (∀ k ∈ r, 1 ≤ k ∧ k < g) → f [n.pv, ord (x :: r)] S = .ok (n.mapP (turnP r)).pv S
theorem turned_node_F {h : Nat} {w : PF} (hw : ∀ h', h = h' + 1 → TurnOk h' w) : TurnOk h (F_turned_node w) := fun g n x r S tr hr => by
  refine Sat.eq ?_
  rw [A_turned_node]; unfold D_turned_node
  have gl := tr.ps.len
  simp -implicitDefEqProofs only [EVc, Nat.reduceSub, Int.reduceLT, Int.reduceLE, Int.reduceEq, Int.reduceSub, Int.reduceAdd, Int.reduceMul, Int.reduceNeg, List.replicate, wipeE, List.replicate_zero, List.getElem?_cons_zero, List.getElem?_cons_succ, List.set_cons_succ, List.set_cons_zero, Option.map_some, if_true, if_false]
  rw [show cutP ((x :: r).map fun (k : Nat) => PV.int k) (some 1) none = r.map fun (k : Nat) => PV.int k from cut_from (xs := (x :: r).map fun (k : Nat) => PV.int k) (k := 1) (by rw [List.length_map, List.length_cons]; omega)]
  rw [Nd.pv_eq]
  simp -implicitDefEqProofs only [EVc, Nat.reduceSub, Int.reduceLT, Int.reduceLE, Int.reduceEq, Int.reduceSub, Int.reduceAdd, Int.reduceMul, Int.reduceNeg, List.replicate, wipeE, List.replicate_zero, List.getElem?_cons_zero, List.getElem?_cons_succ, List.set_cons_succ, List.set_cons_zero, Option.map_some, if_true, if_false]
  rw [comp_map (fun (k : Nat) => PV.int k) (fun k => ppv (n.ps.getD (k - 1) (Fr.zero, Fr.zero))) r (fun k hk => ⟨_, rfl, by
    have := hr k hk
    simp -implicitDefEqProofs only [EVc, Nat.reduceSub, Int.reduceLT, Int.reduceLE, Int.reduceEq, Int.reduceSub, Int.reduceAdd, Int.reduceMul, Int.reduceNeg, List.replicate, wipeE, List.replicate_zero, List.getElem?_cons_zero, List.getElem?_cons_succ, List.set_cons_succ, List.set_cons_zero, Option.map_some, if_true, if_false]
    rw [ixTe (n := k - 1) (by omega) (mapDP (by omega))]⟩)]
  simp -implicitDefEqProofs only [EVc, Nat.reduceSub, Int.reduceLT, Int.reduceLE, Int.reduceEq, Int.reduceSub, Int.reduceAdd, Int.reduceMul, Int.reduceNeg, List.replicate, wipeE, List.replicate_zero, List.getElem?_cons_zero, List.getElem?_cons_succ, List.set_cons_succ, List.set_cons_zero, Option.map_some, if_true, if_false]
  rw [comp_map Nd.pv (fun m => (m.mapP (turnP r)).pv) n.ks (fun m hm => ⟨_, rfl, by
    simp -implicitDefEqProofs only [EVc, Nat.reduceSub, Int.reduceLT, Int.reduceLE, Int.reduceEq, Int.reduceSub, Int.reduceAdd, Int.reduceMul, Int.reduceNeg, List.replicate, wipeE, List.replicate_zero, List.getElem?_cons_zero, List.getElem?_cons_succ, List.set_cons_succ, List.set_cons_zero, Option.map_some, if_true, if_false]
    cases h with
    | zero => rw [show n.ks = [] from tr.2] at hm; exact nomatch hm
    | succ h =>
      rw [hw h rfl g m x r S (tr.2.2.2 m hm) hr]⟩)]
  simp -implicitDefEqProofs only [EVc, Nat.reduceSub, Int.reduceLT, Int.reduceLE, Int.reduceEq, Int.reduceSub, Int.reduceAdd, Int.reduceMul, Int.reduceNeg, List.replicate, wipeE, List.replicate_zero, List.getElem?_cons_zero, List.getElem?_cons_succ, List.set_cons_succ, List.set_cons_zero, Option.map_some, if_true, if_false]
  rw [Nd.pv_eq, mapP_ps, mapP_ks]
  unfold turnP
  rw [List.map_map, List.map_map]
  rfl
/-! ### the whole -/
def WidenedOk (f : PF) : Prop := ∀ (g h : Nat) (n : Nd) (a : Fr) S, MkG g h n → a.bd 10 → 0 < a.n → f [mkt (g : Int) n, a.pv] S = if a.lt Fr.one = true then .exc .market S else .ok (mkt (g : Int) (n.mapP (wideP a))) S
theorem one_bd3 : Fr.one.bd 3000 := one_PsG.1.1.mono (by decide)
theorem widened_F {c k w : PF} (hc : CheckMOk c) (hk : FCmp k) (hw : ∀ h, h ≤ 2 → WideOk h w) : WidenedOk (F_widened c k w) := fun g h n a S M ha h0 => by
  refine Sat.eqv ?_
  rw [A_widened]; unfold D_widened
  simp -implicitDefEqProofs only [EVc, Nat.reduceSub, Int.reduceLT, Int.reduceLE, Int.reduceEq, Int.reduceSub, Int.reduceAdd, Int.reduceMul, Int.reduceNeg, List.replicate, wipeE, List.replicate_zero, List.getElem?_cons_zero, List.getElem?_cons_succ, List.set_cons_succ, List.set_cons_zero, Option.map_some, if_true, if_false]
  rw [hc (g : Int) n S M.ok, M.chk]
  simp -implicitDefEqProofs only [EVc, Nat.reduceSub, Int.reduceLT, Int.reduceLE, Int.reduceEq, Int.reduceSub, Int.reduceAdd, Int.reduceMul, Int.reduceNeg, List.replicate, wipeE, List.replicate_zero, List.getElem?_cons_zero, List.getElem?_cons_succ, List.set_cons_succ, List.set_cons_zero, Option.map_some, if_true, if_false]
  rw [show PV.tup [.int 1, .int 1] = Fr.one.pv from rfl, hk _ _ _ (ha.mono (by decide)) one_bd3]
  simp -implicitDefEqProofs only [EVc, Nat.reduceSub, Int.reduceLT, Int.reduceLE, Int.reduceEq, Int.reduceSub, Int.reduceAdd, Int.reduceMul, Int.reduceNeg, List.replicate, wipeE, List.replicate_zero, List.getElem?_cons_zero, List.getElem?_cons_succ, List.set_cons_succ, List.set_cons_zero, Option.map_some, if_true, if_false]
  by_cases hl : a.lt Fr.one = true
  · rw [if_pos (cmp_neg.mpr hl), if_pos hl]
  · rw [if_neg (fun q => hl (cmp_neg.mp q)), if_neg hl]
    rw [hw h M.h2 g n a S M.tree ha (by omega)]
    (try first | trivial | exact ⟨rfl, rfl⟩ | exact ⟨rfl, trivial⟩ | rfl)
def TurnedOk (f : PF) : Prop := ∀ (g h : Nat) (n : Nd) (o : List Nat) S, MkG g h n → o.length ≤ 10 →
  (o.length ≠ g → f [mkt (g : Int) n, ord o] S = .exc .market S) ∧
  (∀ k r, o = (k + 1) :: r → f [mkt (g : Int) n, ord o] S = .exc .market S) ∧
  (∀ r, o = 0 :: r → o.Perm (List.range g) → f [mkt (g : Int) n, ord o] S = .ok (mkt (g : Int) (n.mapP (turnP r))) S)
section
variable {S : Store}
theorem shps_ints (l : List Nat) : shps (l.map fun (k : Nat) => PV.int k) = true := shp_pa l
theorem sort_ints {l m : List Nat} (hm : m.Pairwise (· < ·)) (hp : l.Perm m) : lift1 gSorted (ord l) S = .ok (.lst (m.map fun (k : Nat) => PV.int k)) S := by
  have e : (l.map fun (k : Nat) => PV.int k).mergeSort (fun a b => !plt b a) = m.map fun (k : Nat) => PV.int k := by
    rw [← List.map_mergeSort (r := fun a b : Nat => decide (a ≤ b)) (f := fun (k : Nat) => PV.int k) (fun a _ b _ => by
      show decide (a ≤ b) = !decide ((b : Int) < a)
      rw [← decide_not]; exact decide_eq_decide.mpr (by omega))]
    congr 1
    refine List.Perm.eq_of_pairwise (le := fun a b : Nat => decide (a ≤ b) = true) (fun a b _ _ h1 h2 => ?_) (List.pairwise_mergeSort (fun a b c h1 h2 => ?_) (fun a b => ?_) l) (hm.imp fun {a b} h => ?_) ((List.mergeSort_perm l _).trans hp)
    · rw [decide_eq_true_eq] at h1 h2; omega
    · rw [decide_eq_true_eq] at h1 h2 ⊢; omega
    · rw [Bool.or_eq_true, decide_eq_true_eq, decide_eq_true_eq]; omega
    · rw [decide_eq_true_eq]; omega
  have c : canSort (l.map fun (k : Nat) => PV.int k) = true := by
    have h2 : deps (l.map fun (k : Nat) => PV.int k) ≤ 60 := by have := dep_pa l; have : deps (l.map fun (k : Nat) => PV.int k) + 1 = 1 := this; omega
    unfold canSort
    rw [shps_ints, decide_eq_true h2, Bool.and_eq_true, Bool.and_eq_true, Bool.or_eq_true]
    refine ⟨⟨rfl, ?_⟩, .inr ?_⟩
    · simp only [List.all_eq_true, List.mem_map]
      rintro _ ⟨p, _, rfl⟩ _ ⟨q, _, rfl⟩
      rfl
    · simp only [List.all_eq_true, List.mem_map]
      rintro _ ⟨p, _, rfl⟩
      rfl
  show (match (if canSort (l.map fun (k : Nat) => PV.int k) = true then some (PV.lst ((l.map fun (k : Nat) => PV.int k).mergeSort fun a b => !plt b a)) else none) with | some z => Res.ok z S | none => .bad) = _
  rw [if_pos c, e]
theorem ne_lstI (l : List Nat) : lift2 gNe (.lst (l.map fun (k : Nat) => PV.int k)) (.lst (l.map fun (k : Nat) => PV.int k)) S = .ok (.bl false) S := ne_self (shps_ints l) (by have := dep_pa l; show deps _ + 1 ≤ 64; have : deps (l.map fun (k : Nat) => PV.int k) + 1 = 1 := this; omega)
end
theorem turned_F {c w : PF} (hc : CheckMOk c) (hw : ∀ h, h ≤ 2 → TurnOk h w) : TurnedOk (F_turned c w) := fun g h n o S M ho => by
  have g4 := M.g4
  have start : ∀ R : Res PV, SatF (D_turned c w [.fz (mkt (g : Int) n), .fz (ord o)] S) ⟨fun _ S' => R = .ok .non S', fun v S' => R = .ok v S', fun e _ S' => R = .exc e S', fun _ _ => False, fun _ _ => False⟩ → F_turned c w [mkt (g : Int) n, ord o] S = R := fun R hh => by
    refine Sat.eqv ?_
    rw [A_turned, Sat_flo]; exact hh
  refine ⟨fun hl => start _ ?_, fun k r he => start _ ?_, fun r he hp => start _ ?_⟩
  · unfold D_turned
    simp -implicitDefEqProofs only [EVc, Nat.reduceSub, Int.reduceLT, Int.reduceLE, Int.reduceEq, Int.reduceSub, Int.reduceAdd, Int.reduceMul, Int.reduceNeg, List.replicate, wipeE, List.replicate_zero, List.getElem?_cons_zero, List.getElem?_cons_succ, List.set_cons_succ, List.set_cons_zero, Option.map_some, if_true, if_false]
    rw [hc (g : Int) n S M.ok, M.chk]
    have : ¬ ((o.length : Nat) : Int) = g := by omega
    simp -implicitDefEqProofs only [EVc, Nat.reduceSub, Int.reduceLT, Int.reduceLE, Int.reduceEq, Int.reduceSub, Int.reduceAdd, Int.reduceMul, Int.reduceNeg, List.replicate, wipeE, List.replicate_zero, List.getElem?_cons_zero, List.getElem?_cons_succ, List.set_cons_succ, List.set_cons_zero, Option.map_some, if_true, if_false, List.length_map, this]
  · subst he
    unfold D_turned
    simp -implicitDefEqProofs only [EVc, Nat.reduceSub, Int.reduceLT, Int.reduceLE, Int.reduceEq, Int.reduceSub, Int.reduceAdd, Int.reduceMul, Int.reduceNeg, List.replicate, wipeE, List.replicate_zero, List.getElem?_cons_zero, List.getElem?_cons_succ, List.set_cons_succ, List.set_cons_zero, Option.map_some, if_true, if_false]
    rw [hc (g : Int) n S M.ok, M.chk]
    have e : lift2 gIx (ord ((k + 1) :: r)) (.int 0) S = .ok (.int ((k + 1 : Nat) : Int)) S := ixT (i := 0) rfl
    have e1 : ¬ ((k + 1 : Nat) : Int) = 0 := by omega
    simp -implicitDefEqProofs only [EVc, Nat.reduceSub, Int.reduceLT, Int.reduceLE, Int.reduceEq, Int.reduceSub, Int.reduceAdd, Int.reduceMul, Int.reduceNeg, List.replicate, wipeE, List.replicate_zero, List.getElem?_cons_zero, List.getElem?_cons_succ, List.set_cons_succ, List.set_cons_zero, Option.map_some, if_true, if_false, List.length_map, e, e1]
    split <;> trivial
  · unfold D_turned
    simp -implicitDefEqProofs only [EVc, Nat.reduceSub, Int.reduceLT, Int.reduceLE, Int.reduceEq, Int.reduceSub, Int.reduceAdd, Int.reduceMul, Int.reduceNeg, List.replicate, wipeE, List.replicate_zero, List.getElem?_cons_zero, List.getElem?_cons_succ, List.set_cons_succ, List.set_cons_zero, Option.map_some, if_true, if_false]
    rw [hc (g : Int) n S M.ok, M.chk]
    have hl : ((o.length : Nat) : Int) = g := by have := hp.length_eq; rw [List.length_range] at this; omega
    have e : lift2 gIx (ord o) (.int 0) S = .ok (.int 0) S := by subst he; exact ixT (i := 0) rfl
    have es : lift1 gSorted (ord o) S = .ok (.lst ((List.range g).map fun (k : Nat) => PV.int k)) S := sort_ints List.pairwise_lt_range hp
    simp -implicitDefEqProofs only [EVc, Nat.reduceSub, Int.reduceLT, Int.reduceLE, Int.reduceEq, Int.reduceSub, Int.reduceAdd, Int.reduceMul, Int.reduceNeg, List.replicate, wipeE, List.replicate_zero, List.getElem?_cons_zero, List.getElem?_cons_succ, List.set_cons_succ, List.set_cons_zero, Option.map_some, if_true, if_false, List.length_map, hl, e, es]
    rw [rng1F_n (Nat.lt_of_le_of_lt g4 (by decide))]
    simp -implicitDefEqProofs only [EVc, Nat.reduceSub, Int.reduceLT, Int.reduceLE, Int.reduceEq, Int.reduceSub, Int.reduceAdd, Int.reduceMul, Int.reduceNeg, List.replicate, wipeE, List.replicate_zero, List.getElem?_cons_zero, List.getElem?_cons_succ, List.set_cons_succ, List.set_cons_zero, Option.map_some, if_true, if_false, ne_lstI]
    subst he
    have nd : (0 :: r).Nodup := hp.nodup_iff.mpr List.nodup_range
    rw [hw h M.h2 g n 0 r S M.tree fun k hk => ⟨by
      rcases Nat.eq_zero_or_pos k with rfl | h
      · exact absurd hk (List.nodup_cons.mp nd).1
      · exact h, List.mem_range.mp (hp.mem_iff.mp (List.mem_cons_of_mem _ hk))⟩]
    simp -implicitDefEqProofs only [EVc, Nat.reduceSub, Int.reduceLT, Int.reduceLE, Int.reduceEq, Int.reduceSub, Int.reduceAdd, Int.reduceMul, Int.reduceNeg, List.replicate, wipeE, List.replicate_zero, List.getElem?_cons_zero, List.getElem?_cons_succ, List.set_cons_succ, List.set_cons_zero, Option.map_some, if_true, if_false]
end Py
namespace Py.k04
open PySem PySem.Spec PyProof.Rows L2
/-! ### the text's defs -/
def top (i : Nat) : Stmt := PySem.Challenge.pw_nolunch_k04_markets_from_markets.main.body.getD i (.Pass ⟨0, 0, 0, 0⟩)
def f0 : Fn := ⟨⟨("fraction", none), "fraction", "fraction", defArgs (top 9), defBody (top 9), defScope (top 9), [], []⟩, ["numerator", "denominator", "common"], ["numerator", "denominator"], [], []⟩
def f1 : Fn := ⟨⟨("times", none), "times", "times", defArgs (top 10), defBody (top 10), defScope (top 10), [], []⟩, ["a", "b"], ["a", "b"], [], []⟩
def f2 : Fn := ⟨⟨("over", none), "over", "over", defArgs (top 11), defBody (top 11), defScope (top 11), [], []⟩, ["a", "b"], ["a", "b"], [], []⟩
def f3 : Fn := ⟨⟨("compare", none), "compare", "compare", defArgs (top 12), defBody (top 12), defScope (top 12), [], []⟩, ["a", "b", "left", "right"], ["a", "b"], [], []⟩
def f4 : Fn := ⟨⟨("nodes_of", none), "nodes_of", "nodes_of", defArgs (top 17), defBody (top 17), defScope (top 17), [], []⟩, ["market", "found", "stack", "k", "path", "node"], ["market"], ["stack", "found"], []⟩
def f5 : Fn := ⟨⟨("right_prices", none), "right_prices", "right_prices", defArgs (top 18), defBody (top 18), defScope (top 18), [], []⟩, ["goods", "prices", "buy", "sell"], ["goods", "prices"], [], []⟩
def f6 : Fn := ⟨⟨("check_market", none), "check_market", "check_market", defArgs (top 19), defBody (top 19), defScope (top 19), [], []⟩, ["market", "goods", "nodes", "times", "path", "node"], ["market"], [], []⟩
def f7 : Fn := ⟨⟨("node_at", none), "node_at", "node_at", defArgs (top 20), defBody (top 20), defScope (top 20), [], []⟩, ["market", "path", "node", "k"], ["market", "path"], [], []⟩
def f8 : Fn := ⟨⟨("wider_node", none), "wider_node", "wider_node", defArgs (top 22), defBody (top 22), defScope (top 22), [], []⟩, ["node", "factor", "prices", "buy", "sell", "other"], ["node", "factor"], [], []⟩
def f9 : Fn := ⟨⟨("widened", none), "widened", "widened", defArgs (top 23), defBody (top 23), defScope (top 23), [], []⟩, ["market", "factor"], ["market", "factor"], [], []⟩
def f10 : Fn := ⟨⟨("turned_node", none), "turned_node", "turned_node", defArgs (top 24), defBody (top 24), defScope (top 24), [], []⟩, ["node", "order", "prices", "good", "other"], ["node", "order"], [], []⟩
def f11 : Fn := ⟨⟨("turned", none), "turned", "turned", defArgs (top 25), defBody (top 25), defScope (top 25), [], []⟩, ["market", "order"], ["market", "order"], [], []⟩
def f12 : Fn := ⟨⟨("market_at", none), "market_at", "market_at", defArgs (top 26), defBody (top 26), defScope (top 26), [], []⟩, ["market", "path"], ["market", "path"], [], []⟩
def f13 : Fn := ⟨⟨("_law_begin", none), "_law_begin", "_law_begin", defArgs (top 28), defBody (top 28), defScope (top 28), [], []⟩, ["_law_script", "_law_seed", "_law_cell"], ["_law_script"], [], [⟨94, 11, 94, 47⟩]⟩
def f14 : Fn := ⟨⟨("_law_take", none), "_law_take", "_law_take", defArgs (top 29), defBody (top 29), defScope (top 29), [], []⟩, ["_law_d", "_law_many", "_law_digit", "_law_small"], ["_law_d", "_law_many"], [], []⟩
def f15 : Fn := ⟨⟨("_law_gcd", none), "_law_gcd", "_law_gcd", defArgs (top 30), defBody (top 30), defScope (top 30), [], []⟩, ["_law_a", "_law_b"], ["_law_a", "_law_b"], [], []⟩
def f16 : Fn := ⟨⟨("_law_f", none), "_law_f", "_law_f", defArgs (top 31), defBody (top 31), defScope (top 31), [], []⟩, ["_law_a", "_law_b", "_law_c"], ["_law_a", "_law_b"], [], []⟩
def f17 : Fn := ⟨⟨("_law_plus", none), "_law_plus", "_law_plus", defArgs (top 32), defBody (top 32), defScope (top 32), [], []⟩, ["_law_a", "_law_b"], ["_law_a", "_law_b"], [], []⟩
def f18 : Fn := ⟨⟨("_law_minus", none), "_law_minus", "_law_minus", defArgs (top 33), defBody (top 33), defScope (top 33), [], []⟩, ["_law_a", "_law_b"], ["_law_a", "_law_b"], [], []⟩
def f19 : Fn := ⟨⟨("_law_times", none), "_law_times", "_law_times", defArgs (top 34), defBody (top 34), defScope (top 34), [], []⟩, ["_law_a", "_law_b"], ["_law_a", "_law_b"], [], []⟩
def f20 : Fn := ⟨⟨("_law_spread", none), "_law_spread", "_law_spread", defArgs (top 35), defBody (top 35), defScope (top 35), [], []⟩, ["_law_d", "_law_mid", "_law_s", "_law_low"], ["_law_d", "_law_mid"], [], []⟩
def f21 : Fn := ⟨⟨("_law_node", none), "_law_node", "_law_node", defArgs (top 36), defBody (top 36), defScope (top 36), [], []⟩, ["_law_d", "_law_goods", "_law_time", "_law_last", "_law_wild", "_law_many", "_law_children", "_law_weights", "_law_mids", "_law_good", "_law_prices_here", "_law_mid", "_law_k", "_law_total", "_law_child"], ["_law_d", "_law_goods", "_law_time", "_law_last", "_law_wild"], ["_law_mids"], []⟩
def f22 : Fn := ⟨⟨("_law_market", none), "_law_market", "_law_market", defArgs (top 37), defBody (top 37), defScope (top 37), [], []⟩, ["_law_d", "_law_most", "_law_goods", "_law_wild"], ["_law_d", "_law_most"], [], []⟩
def f23 : Fn := ⟨⟨("_law_nodes", none), "_law_nodes", "_law_nodes", defArgs (top 38), defBody (top 38), defScope (top 38), [], []⟩, ["_law_market_here", "_law_rows", "_law_level", "_law_turn", "_law_fresh", "_law_path", "_law_node_here", "_law_k", "_law_row"], ["_law_market_here"], [], []⟩
def f24 : Fn := ⟨⟨("_law_find", none), "_law_find", "_law_find", defArgs (top 39), defBody (top 39), defScope (top 39), [], []⟩, ["_law_market_here", "_law_path", "_law_node_here", "_law_k"], ["_law_market_here", "_law_path"], [], []⟩
def f25 : Fn := ⟨⟨("_law_prices", none), "_law_prices", "_law_prices", defArgs (top 40), defBody (top 40), defScope (top 40), [], []⟩, ["_law_market_here", "_law_path"], ["_law_market_here", "_law_path"], [], []⟩
def f26 : Fn := ⟨⟨("_law_told", none), "_law_told", "_law_told", defArgs (top 41), defBody (top 41), defScope (top 41), [], []⟩, ["_law_which", "_law_market_here", "_law_thing", "e", "_law_found"], ["_law_which", "_law_market_here", "_law_thing"], [], []⟩
def f27 : Fn := ⟨⟨("_law_order", none), "_law_order", "_law_order", defArgs (top 42), defBody (top 42), defScope (top 42), [], []⟩, ["_law_d", "_law_goods", "_law_left", "_law_order_here", "_law_k", "_law_at"], ["_law_d", "_law_goods"], ["_law_order_here"], []⟩
def f28 : Fn := ⟨⟨("law", none), "law", "law", defArgs (top 43), defBody (top 43), defScope (top 43), [], []⟩, ["_law_script", "_law_d", "_law_market_here", "_law_factor", "_law_order_here", "_law_wide", "_law_other", "_law_paths", "_law_path", "_law_bad", "_law_prices_here", "_law_due", "_law_node_here", "_law_k"], ["_law_script"], [], []⟩
def fs : List Fn := [f0, f1, f2, f3, f4, f5, f6, f7, f8, f9, f10, f11, f12, f13, f14, f15, f16, f17, f18, f19, f20, f21, f22, f23, f24, f25, f26, f27, f28]
def T : Mo := { fs := fs, fns := [(("fraction" : Str), 0, 2), (("times" : Str), 1, 2), (("over" : Str), 2, 2), (("compare" : Str), 3, 2), (("nodes_of" : Str), 4, 1), (("right_prices" : Str), 5, 2), (("check_market" : Str), 6, 1), (("node_at" : Str), 7, 2), (("wider_node" : Str), 8, 2), (("widened" : Str), 9, 2), (("turned_node" : Str), 10, 2), (("turned" : Str), 11, 2), (("market_at" : Str), 12, 2), (("_law_begin" : Str), 13, 1), (("_law_take" : Str), 14, 2), (("_law_gcd" : Str), 15, 2), (("_law_f" : Str), 16, 2), (("_law_plus" : Str), 17, 2), (("_law_minus" : Str), 18, 2), (("_law_times" : Str), 19, 2), (("_law_spread" : Str), 20, 2), (("_law_node" : Str), 21, 5), (("_law_market" : Str), 22, 2), (("_law_nodes" : Str), 23, 1), (("_law_find" : Str), 24, 2), (("_law_prices" : Str), 25, 2), (("_law_told" : Str), 26, 3), (("_law_order" : Str), 27, 2)], glb := [("GOODS_LIMIT", .int (4)), ("MOMENT_LIMIT", .int (40)), ("TIME_LIMIT", .int (5)), ("ONE", .tup [.int (1), .int (1)])], errs := [("MarketplaceError", .base), ("MarketError", .market), ("MomentError", .moment), ("TooLarge", .tooLarge), ("ZeroDenominator", .zeroDen)], free := ["len", "tuple", "list", "abs", "int", "str", "all", "any", "sum", "max", "min", "range", "isinstance", "bool", "sorted", "type", "set", "dict", "enumerate", "zip", "repr", "divmod", "reversed", "pow"] }
theorem g0 : FnGood f0 := good_of ⟨rfl, rfl, rfl, by decide +kernel, rfl, by decide +kernel, by decide +kernel⟩ (by decide) rfl rfl fun _ _ _ _ _ _ us hl => match us, hl with | [_, _], _ => rfl
theorem g1 : FnGood f1 := good_of ⟨rfl, rfl, rfl, by decide +kernel, rfl, by decide +kernel, by decide +kernel⟩ (by decide) rfl rfl fun _ _ _ _ _ _ us hl => match us, hl with | [_, _], _ => rfl
theorem g2 : FnGood f2 := good_of ⟨rfl, rfl, rfl, by decide +kernel, rfl, by decide +kernel, by decide +kernel⟩ (by decide) rfl rfl fun _ _ _ _ _ _ us hl => match us, hl with | [_, _], _ => rfl
theorem g3 : FnGood f3 := good_of ⟨rfl, rfl, rfl, by decide +kernel, rfl, by decide +kernel, by decide +kernel⟩ (by decide) rfl rfl fun _ _ _ _ _ _ us hl => match us, hl with | [_, _], _ => rfl
theorem g4 : FnGood f4 := good_of ⟨rfl, rfl, rfl, by decide +kernel, rfl, by decide +kernel, by decide +kernel⟩ (by decide) rfl rfl fun _ _ _ _ _ _ us hl => match us, hl with | [_], _ => rfl
theorem g5 : FnGood f5 := good_of ⟨rfl, rfl, rfl, by decide +kernel, rfl, by decide +kernel, by decide +kernel⟩ (by decide) rfl rfl fun _ _ _ _ _ _ us hl => match us, hl with | [_, _], _ => rfl
theorem g6 : FnGood f6 := good_of ⟨rfl, rfl, rfl, by decide +kernel, rfl, by decide +kernel, by decide +kernel⟩ (by decide) rfl rfl fun _ _ _ _ _ _ us hl => match us, hl with | [_], _ => rfl
theorem g7 : FnGood f7 := good_of ⟨rfl, rfl, rfl, by decide +kernel, rfl, by decide +kernel, by decide +kernel⟩ (by decide) rfl rfl fun _ _ _ _ _ _ us hl => match us, hl with | [_, _], _ => rfl
theorem g8 : FnGood f8 := good_of ⟨rfl, rfl, rfl, by decide +kernel, rfl, by decide +kernel, by decide +kernel⟩ (by decide) rfl rfl fun _ _ _ _ _ _ us hl => match us, hl with | [_, _], _ => rfl
theorem g9 : FnGood f9 := good_of ⟨rfl, rfl, rfl, by decide +kernel, rfl, by decide +kernel, by decide +kernel⟩ (by decide) rfl rfl fun _ _ _ _ _ _ us hl => match us, hl with | [_, _], _ => rfl
theorem g10 : FnGood f10 := good_of ⟨rfl, rfl, rfl, by decide +kernel, rfl, by decide +kernel, by decide +kernel⟩ (by decide) rfl rfl fun _ _ _ _ _ _ us hl => match us, hl with | [_, _], _ => rfl
theorem g11 : FnGood f11 := good_of ⟨rfl, rfl, rfl, by decide +kernel, rfl, by decide +kernel, by decide +kernel⟩ (by decide) rfl rfl fun _ _ _ _ _ _ us hl => match us, hl with | [_, _], _ => rfl
theorem g12 : FnGood f12 := good_of ⟨rfl, rfl, rfl, by decide +kernel, rfl, by decide +kernel, by decide +kernel⟩ (by decide) rfl rfl fun _ _ _ _ _ _ us hl => match us, hl with | [_, _], _ => rfl
theorem g13 : FnGood f13 := good_of ⟨rfl, rfl, rfl, by decide +kernel, rfl, by decide +kernel, by decide +kernel⟩ (by decide) rfl rfl fun _ _ _ _ _ _ us hl => match us, hl with | [_], _ => rfl
theorem g14 : FnGood f14 := good_of ⟨rfl, rfl, rfl, by decide +kernel, rfl, by decide +kernel, by decide +kernel⟩ (by decide) rfl rfl fun _ _ _ _ _ _ us hl => match us, hl with | [_, _], _ => rfl
theorem g15 : FnGood f15 := good_of ⟨rfl, rfl, rfl, by decide +kernel, rfl, by decide +kernel, by decide +kernel⟩ (by decide) rfl rfl fun _ _ _ _ _ _ us hl => match us, hl with | [_, _], _ => rfl
theorem g16 : FnGood f16 := good_of ⟨rfl, rfl, rfl, by decide +kernel, rfl, by decide +kernel, by decide +kernel⟩ (by decide) rfl rfl fun _ _ _ _ _ _ us hl => match us, hl with | [_, _], _ => rfl
theorem g17 : FnGood f17 := good_of ⟨rfl, rfl, rfl, by decide +kernel, rfl, by decide +kernel, by decide +kernel⟩ (by decide) rfl rfl fun _ _ _ _ _ _ us hl => match us, hl with | [_, _], _ => rfl
theorem g18 : FnGood f18 := good_of ⟨rfl, rfl, rfl, by decide +kernel, rfl, by decide +kernel, by decide +kernel⟩ (by decide) rfl rfl fun _ _ _ _ _ _ us hl => match us, hl with | [_, _], _ => rfl
theorem g19 : FnGood f19 := good_of ⟨rfl, rfl, rfl, by decide +kernel, rfl, by decide +kernel, by decide +kernel⟩ (by decide) rfl rfl fun _ _ _ _ _ _ us hl => match us, hl with | [_, _], _ => rfl
theorem g20 : FnGood f20 := good_of ⟨rfl, rfl, rfl, by decide +kernel, rfl, by decide +kernel, by decide +kernel⟩ (by decide) rfl rfl fun _ _ _ _ _ _ us hl => match us, hl with | [_, _], _ => rfl
theorem g21 : FnGood f21 := good_of ⟨rfl, rfl, rfl, by decide +kernel, rfl, by decide +kernel, by decide +kernel⟩ (by decide) rfl rfl fun _ _ _ _ _ _ us hl => match us, hl with | [_, _, _, _, _], _ => rfl
theorem g22 : FnGood f22 := good_of ⟨rfl, rfl, rfl, by decide +kernel, rfl, by decide +kernel, by decide +kernel⟩ (by decide) rfl rfl fun _ _ _ _ _ _ us hl => match us, hl with | [_, _], _ => rfl
theorem g23 : FnGood f23 := good_of ⟨rfl, rfl, rfl, by decide +kernel, rfl, by decide +kernel, by decide +kernel⟩ (by decide) rfl rfl fun _ _ _ _ _ _ us hl => match us, hl with | [_], _ => rfl
theorem g24 : FnGood f24 := good_of ⟨rfl, rfl, rfl, by decide +kernel, rfl, by decide +kernel, by decide +kernel⟩ (by decide) rfl rfl fun _ _ _ _ _ _ us hl => match us, hl with | [_, _], _ => rfl
theorem g25 : FnGood f25 := good_of ⟨rfl, rfl, rfl, by decide +kernel, rfl, by decide +kernel, by decide +kernel⟩ (by decide) rfl rfl fun _ _ _ _ _ _ us hl => match us, hl with | [_, _], _ => rfl
theorem g26 : FnGood f26 := good_of ⟨rfl, rfl, rfl, by decide +kernel, rfl, by decide +kernel, by decide +kernel⟩ (by decide) rfl rfl fun _ _ _ _ _ _ us hl => match us, hl with | [_, _, _], _ => rfl
theorem g27 : FnGood f27 := good_of ⟨rfl, rfl, rfl, by decide +kernel, rfl, by decide +kernel, by decide +kernel⟩ (by decide) rfl rfl fun _ _ _ _ _ _ us hl => match us, hl with | [_, _], _ => rfl
theorem g28 : FnGood f28 := good_of ⟨rfl, rfl, rfl, by decide +kernel, rfl, by decide +kernel, by decide +kernel⟩ (by decide) rfl rfl fun _ _ _ _ _ _ us hl => match us, hl with | [_], _ => rfl
theorem good : ∀ f ∈ T.fs, FnGood f := AllG.mem (show AllG fs from ⟨g0, g1, g2, g3, g4, g5, g6, g7, g8, g9, g10, g11, g12, g13, g14, g15, g16, g17, g18, g19, g20, g21, g22, g23, g24, g25, g26, g27, g28, trivial⟩)
end Py.k04
namespace Py.k04
open PySem PySem.Spec L2
/-- fraction -/
noncomputable def b0 (G : Nat → List PV → Store → Res PV) : Dns := (dSeq (dIfS (dOp2 gEq (dBor 1) (dK (.int 0))) (dSeq (dRaise .zeroDen) dSkip) dSkip) (dSeq (dIfS (dOp2 gLt (dBor 1) (dK (.int 0))) (dSeq (dAsg 0 (dNeg (dVar 0))) (dSeq (dAsg 1 (dNeg (dVar 1))) dSkip)) dSkip) (dSeq (dAsg 2 (dGcd (dVar 0) (dVar 1))) (dSeq (dRet (dTup (dCons (dOp2 gDiv (dBor 0) (dBor 2)) (dCons (dOp2 gDiv (dBor 1) (dBor 2)) dNil)))) dSkip))))
theorem e0 (G : Nat → List PV → Store → Res PV) : bodyD T G f0 = b0 G := bodyD_of (by kernel_rfl)
theorem c0 (k : Nat) : callF T (k + 1) 0 = dDef 3 2 (b0 (callF T k)) := by
  rw [callF_at (i := 0) (f := f0) rfl k, e0]
  rfl
/-- times -/
noncomputable def b1 (G : Nat → List PV → Store → Res PV) : Dns := (dSeq (dRet (dCall (G 0) (dCons (dOp2 gMul (dOp2 gIx (dBor 0) (dK (.int 0))) (dOp2 gIx (dBor 1) (dK (.int 0)))) (dCons (dOp2 gMul (dOp2 gIx (dBor 0) (dK (.int 1))) (dOp2 gIx (dBor 1) (dK (.int 1)))) dNil)))) dSkip)
theorem e1 (G : Nat → List PV → Store → Res PV) : bodyD T G f1 = b1 G := bodyD_of (by kernel_rfl)
theorem c1 (k : Nat) : callF T (k + 1) 1 = dDef 2 2 (b1 (callF T k)) := by
  rw [callF_at (i := 1) (f := f1) rfl k, e1]
  rfl
/-- over -/
noncomputable def b2 (G : Nat → List PV → Store → Res PV) : Dns := (dSeq (dRet (dCall (G 0) (dCons (dOp2 gMul (dOp2 gIx (dBor 0) (dK (.int 0))) (dOp2 gIx (dBor 1) (dK (.int 1)))) (dCons (dOp2 gMul (dOp2 gIx (dBor 0) (dK (.int 1))) (dOp2 gIx (dBor 1) (dK (.int 0)))) dNil)))) dSkip)
theorem e2 (G : Nat → List PV → Store → Res PV) : bodyD T G f2 = b2 G := bodyD_of (by kernel_rfl)
theorem c2 (k : Nat) : callF T (k + 1) 2 = dDef 2 2 (b2 (callF T k)) := by
  rw [callF_at (i := 2) (f := f2) rfl k, e2]
  rfl
/-- compare -/
noncomputable def b3 (G : Nat → List PV → Store → Res PV) : Dns := (dSeq (dAsg 2 (dOp2 gMul (dOp2 gIx (dBor 0) (dK (.int 0))) (dOp2 gIx (dBor 1) (dK (.int 1))))) (dSeq (dAsg 3 (dOp2 gMul (dOp2 gIx (dBor 1) (dK (.int 0))) (dOp2 gIx (dBor 0) (dK (.int 1))))) (dSeq (dIfS (dOp2 gLt (dBor 2) (dBor 3)) (dSeq (dRet (dNeg (dK (.int 1)))) dSkip) dSkip) (dSeq (dIfS (dOp2 gGt (dBor 2) (dBor 3)) (dSeq (dRet (dK (.int 1))) dSkip) dSkip) (dSeq (dRet (dK (.int 0))) dSkip)))))
theorem e3 (G : Nat → List PV → Store → Res PV) : bodyD T G f3 = b3 G := bodyD_of (by kernel_rfl)
theorem c3 (k : Nat) : callF T (k + 1) 3 = dDef 4 2 (b3 (callF T k)) := by
  rw [callF_at (i := 3) (f := f3) rfl k, e3]
  rfl
/-- nodes_of -/
noncomputable def b4 (G : Nat → List PV → Store → Res PV) : Dns := (dSeq (dAsgO 1 (dLst dNil)) (dSeq (dAsgO 2 (dLst (dCons (dTup (dCons (dTup dNil) (dCons (dOp2 gIx (dBor 0) (dK (.int 1))) dNil))) dNil))) (dSeq (dWh (dOp2 gGt (dOp1 gLen (dBor 2)) (dK (.int 0))) (dSeq (dPop (tT [4, 5]) 2) (dSeq (dApp' 1 (dTup (dCons (dVar 4) (dCons (dVar 5) dNil)))) (dSeq (dFor (dRng1 (dOp1 gLen (dOp2 gIx (dBor 5) (dK (.int 1))))) (tN 3) (dSeq (dApp' 2 (dTup (dCons (dOp2 gAdd (dBor 4) (dTup (dCons (dVar 3) dNil))) (dCons (dOp2 gIx (dOp2 gIx (dBor 5) (dK (.int 1))) (dBor 3)) dNil)))) dSkip)) dSkip)))) (dSeq (dSeq (dFz 1) (dRet (dVar 1))) dSkip))))
theorem e4 (G : Nat → List PV → Store → Res PV) : bodyD T G f4 = b4 G := bodyD_of (by kernel_rfl)
theorem c4 (k : Nat) : callF T (k + 1) 4 = dDef 6 1 (b4 (callF T k)) := by
  rw [callF_at (i := 4) (f := f4) rfl k, e4]
  rfl
/-- right_prices -/
noncomputable def b5 (G : Nat → List PV → Store → Res PV) : Dns := (dSeq (dIfS (dOp2 gNe (dOp1 gLen (dBor 1)) (dOp2 gSub (dBor 0) (dK (.int 1)))) (dSeq (dRet (dK (.bl false))) dSkip) dSkip) (dSeq (dRet (dOp1 gAll (dLc (dSeqI (dVar 1)) (tT [2, 3]) dTrue (dAnd (dOp2 gGe (dOp2 gIx (dBor 3) (dK (.int 0))) (dK (.int 0))) (dOp2 gLe (dCall (G 3) (dCons (dVar 3) (dCons (dVar 2) dNil))) (dK (.int 0)))) [2, 3]))) dSkip))
theorem e5 (G : Nat → List PV → Store → Res PV) : bodyD T G f5 = b5 G := bodyD_of (by kernel_rfl)
theorem c5 (k : Nat) : callF T (k + 1) 5 = dDef 4 2 (b5 (callF T k)) := by
  rw [callF_at (i := 5) (f := f5) rfl k, e5]
  rfl
/-- check_market -/
noncomputable def b6 (G : Nat → List PV → Store → Res PV) : Dns := (dSeq (dAsg 1 (dOp2 gIx (dBor 0) (dK (.int 0)))) (dSeq (dIfS (dOr (dOp2 gLt (dBor 1) (dK (.int 1))) (dOp2 gGt (dBor 1) (dK (.int 4)))) (dSeq (dRaise .market) dSkip) dSkip) (dSeq (dAsg 2 (dCall (G 4) (dCons (dVar 0) dNil))) (dSeq (dAsg 3 (dLc (dSeqI (dVar 2)) (tT [4, 5]) (dOp2 gEq (dOp1 gLen (dOp2 gIx (dBor 5) (dK (.int 1)))) (dK (.int 0))) (dOp1 gLen (dBor 4)) [4, 5])) (dSeq (dIfS (dOr (dNot (dOp1 gAll (dLc (dSeqI (dVar 2)) (tT [4, 5]) dTrue (dCall (G 5) (dCons (dVar 1) (dCons (dOp2 gIx (dBor 5) (dK (.int 0))) dNil))) [4, 5]))) (dOp2 gNe (dOp1 gMin (dBor 3)) (dOp1 gMax (dBor 3)))) (dSeq (dRaise .market) dSkip) dSkip) (dSeq (dIfS (dOr (dOp2 gGt (dOp1 gLen (dBor 2)) (dK (.int 40))) (dOp2 gGt (dOp1 gMax (dBor 3)) (dK (.int 5)))) (dSeq (dRaise .tooLarge) dSkip) dSkip) dSkip))))))
theorem e6 (G : Nat → List PV → Store → Res PV) : bodyD T G f6 = b6 G := bodyD_of (by kernel_rfl)
theorem c6 (k : Nat) : callF T (k + 1) 6 = dDef 6 1 (b6 (callF T k)) := by
  rw [callF_at (i := 6) (f := f6) rfl k, e6]
  rfl
/-- node_at -/
noncomputable def b7 (G : Nat → List PV → Store → Res PV) : Dns := (dSeq (dAsg 2 (dOp2 gIx (dBor 0) (dK (.int 1)))) (dSeq (dFor (dSeqI (dVar 1)) (tN 3) (dSeq (dIfS (dOr (dOp2 gLt (dBor 3) (dK (.int 0))) (dOp2 gGe (dBor 3) (dOp1 gLen (dOp2 gIx (dBor 2) (dK (.int 1)))))) (dSeq (dRaise .moment) dSkip) dSkip) (dSeq (dAsg 2 (dOp2 gIx (dOp2 gIx (dBor 2) (dK (.int 1))) (dBor 3))) dSkip))) (dSeq (dRet (dVar 2)) dSkip)))
theorem e7 (G : Nat → List PV → Store → Res PV) : bodyD T G f7 = b7 G := bodyD_of (by kernel_rfl)
theorem c7 (k : Nat) : callF T (k + 1) 7 = dDef 4 2 (b7 (callF T k)) := by
  rw [callF_at (i := 7) (f := f7) rfl k, e7]
  rfl
/-- wider_node -/
noncomputable def b8 (G : Nat → List PV → Store → Res PV) : Dns := (dSeq (dAsg 2 (dOp1 gTuple (dLc (dSeqI (dOp2 gIx (dBor 0) (dK (.int 0)))) (tT [3, 4]) dTrue (dTup (dCons (dCall (G 1) (dCons (dVar 3) (dCons (dVar 1) dNil))) (dCons (dCall (G 2) (dCons (dVar 4) (dCons (dVar 1) dNil))) dNil))) [3, 4]))) (dSeq (dRet (dTup (dCons (dVar 2) (dCons (dOp1 gTuple (dLc (dSeqI (dOp2 gIx (dBor 0) (dK (.int 1)))) (tN 5) dTrue (dCall (G 8) (dCons (dVar 5) (dCons (dVar 1) dNil))) [5])) dNil)))) dSkip))
theorem e8 (G : Nat → List PV → Store → Res PV) : bodyD T G f8 = b8 G := bodyD_of (by kernel_rfl)
theorem c8 (k : Nat) : callF T (k + 1) 8 = dDef 6 2 (b8 (callF T k)) := by
  rw [callF_at (i := 8) (f := f8) rfl k, e8]
  rfl
/-- widened -/
noncomputable def b9 (G : Nat → List PV → Store → Res PV) : Dns := (dSeq (dEx (dCall (G 6) (dCons (dVar 0) dNil))) (dSeq (dIfS (dOp2 gLt (dCall (G 3) (dCons (dVar 1) (dCons (dK (.tup [(.int 1), (.int 1)])) dNil))) (dK (.int 0))) (dSeq (dRaise .market) dSkip) dSkip) (dSeq (dRet (dTup (dCons (dOp2 gIx (dBor 0) (dK (.int 0))) (dCons (dCall (G 8) (dCons (dOp2 gIx (dBor 0) (dK (.int 1))) (dCons (dVar 1) dNil))) dNil)))) dSkip)))
theorem e9 (G : Nat → List PV → Store → Res PV) : bodyD T G f9 = b9 G := bodyD_of (by kernel_rfl)
theorem c9 (k : Nat) : callF T (k + 1) 9 = dDef 2 2 (b9 (callF T k)) := by
  rw [callF_at (i := 9) (f := f9) rfl k, e9]
  rfl
/-- turned_node -/
noncomputable def b10 (G : Nat → List PV → Store → Res PV) : Dns := (dSeq (dAsg 2 (dOp1 gTuple (dLc (dSeqI (dSl gSl (dBor 1) (dPart (dK (.int 1))) dNoPart)) (tN 3) dTrue (dOp2 gIx (dOp2 gIx (dBor 0) (dK (.int 0))) (dOp2 gSub (dBor 3) (dK (.int 1)))) [3]))) (dSeq (dRet (dTup (dCons (dVar 2) (dCons (dOp1 gTuple (dLc (dSeqI (dOp2 gIx (dBor 0) (dK (.int 1)))) (tN 4) dTrue (dCall (G 10) (dCons (dVar 4) (dCons (dVar 1) dNil))) [4])) dNil)))) dSkip))
theorem e10 (G : Nat → List PV → Store → Res PV) : bodyD T G f10 = b10 G := bodyD_of (by kernel_rfl)
theorem c10 (k : Nat) : callF T (k + 1) 10 = dDef 5 2 (b10 (callF T k)) := by
  rw [callF_at (i := 10) (f := f10) rfl k, e10]
  rfl
/-- turned -/
noncomputable def b11 (G : Nat → List PV → Store → Res PV) : Dns := (dSeq (dEx (dCall (G 6) (dCons (dVar 0) dNil))) (dSeq (dIfS (dOr (dOp2 gNe (dOp1 gLen (dBor 1)) (dOp2 gIx (dBor 0) (dK (.int 0)))) (dOr (dOp2 gNe (dOp2 gIx (dBor 1) (dK (.int 0))) (dK (.int 0))) (dOp2 gNe (dOp1 gSorted (dBor 1)) (dLW (dRng1 (dOp2 gIx (dBor 0) (dK (.int 0)))))))) (dSeq (dRaise .market) dSkip) dSkip) (dSeq (dRet (dTup (dCons (dOp2 gIx (dBor 0) (dK (.int 0))) (dCons (dCall (G 10) (dCons (dOp2 gIx (dBor 0) (dK (.int 1))) (dCons (dVar 1) dNil))) dNil)))) dSkip)))
theorem e11 (G : Nat → List PV → Store → Res PV) : bodyD T G f11 = b11 G := bodyD_of (by kernel_rfl)
theorem c11 (k : Nat) : callF T (k + 1) 11 = dDef 2 2 (b11 (callF T k)) := by
  rw [callF_at (i := 11) (f := f11) rfl k, e11]
  rfl
/-- market_at -/
noncomputable def b12 (G : Nat → List PV → Store → Res PV) : Dns := (dSeq (dEx (dCall (G 6) (dCons (dVar 0) dNil))) (dSeq (dRet (dTup (dCons (dOp2 gIx (dBor 0) (dK (.int 0))) (dCons (dCall (G 7) (dCons (dVar 0) (dCons (dVar 1) dNil))) dNil)))) dSkip))
theorem e12 (G : Nat → List PV → Store → Res PV) : bodyD T G f12 = b12 G := bodyD_of (by kernel_rfl)
theorem c12 (k : Nat) : callF T (k + 1) 12 = dDef 2 2 (b12 (callF T k)) := by
  rw [callF_at (i := 12) (f := f12) rfl k, e12]
  rfl
/-- _law_begin -/
noncomputable def b13 (G : Nat → List PV → Store → Res PV) : Dns := (dSeq (dAsg 1 (dK (.int 1))) (dSeq (dFor (dSeqI (dVar 0)) (tN 2) (dSeq (dAsg 1 (dOp2 gMod (dOp2 gAdd (dOp2 gAdd (dOp2 gMul (dBor 1) (dK (.int 69621))) (dOp2 gMod (dOp1 gInt (dBor 2)) (dK (.int 2147483629)))) (dK (.int 7))) (dK (.int 2147483647)))) dSkip)) (dSeq (dRet (dBox (dLst (dCons (dOp1 gList (dBor 0)) (dCons (dK (.int 0)) (dCons (dK (.int 0)) (dCons (dVar 1) dNil))))))) dSkip)))
theorem e13 (G : Nat → List PV → Store → Res PV) : bodyD T G f13 = b13 G := bodyD_of (by kernel_rfl)
theorem c13 (k : Nat) : callF T (k + 1) 13 = dDef 3 1 (b13 (callF T k)) := by
  rw [callF_at (i := 13) (f := f13) rfl k, e13]
  rfl
/-- _law_take -/
noncomputable def b14 (G : Nat → List PV → Store → Res PV) : Dns := (dSeq (dIfS (dAnd (dOp2 gEq (dOp2 gIx (dBor 0) (dK (.int 2))) (dK (.int 0))) (dOp2 gLt (dOp2 gIx (dBor 0) (dK (.int 1))) (dOp1 gLen (dOp2 gIx (dBor 0) (dK (.int 0)))))) (dSeq (dSetN 0 (dK (.int 2)) (dOp1 gAbs (dOp1 gInt (dOp2 gIx (dOp2 gIx (dBor 0) (dK (.int 0))) (dOp2 gIx (dBor 0) (dK (.int 1))))))) (dSeq (dSetN 0 (dK (.int 1)) (dOp2 gAdd (dOp2 gIx (dBor 0) (dK (.int 1))) (dK (.int 1)))) (dSeq (dIfS (dOp2 gLt (dOp2 gIx (dBor 0) (dK (.int 2))) (dOp2 gPow (dK (.int 10)) (dK (.int 18)))) (dSeq (dAsg 3 (dOp1 gInt (dOp2 gIx (dBor 0) (dK (.int 2))))) (dSeq (dSetN 0 (dK (.int 2)) (dK (.int 0))) (dSeq (dRet (dOp2 gMod (dBor 3) (dBor 1))) dSkip))) dSkip) dSkip))) dSkip) (dSeq (dIfS (dOp2 gGt (dOp2 gIx (dBor 0) (dK (.int 2))) (dK (.int 0))) (dSeq (dAsg 2 (dOp2 gMod (dOp1 gInt (dOp2 gIx (dBor 0) (dK (.int 2)))) (dBor 1))) (dSeq (dSetN 0 (dK (.int 2)) (dOp2 gDiv (dOp1 gInt (dOp2 gIx (dBor 0) (dK (.int 2)))) (dBor 1))) (dSeq (dRet (dVar 2)) dSkip))) dSkip) (dSeq (dSetN 0 (dK (.int 3)) (dOp2 gMod (dOp1 gInt (dOp2 gAdd (dOp2 gMul (dOp2 gIx (dBor 0) (dK (.int 3))) (dK (.int 48271))) (dK (.int 11)))) (dK (.int 2147483647)))) (dSeq (dRet (dOp2 gMod (dOp1 gInt (dOp2 gDiv (dOp2 gIx (dBor 0) (dK (.int 3))) (dK (.int 3)))) (dBor 1))) dSkip))))
theorem e14 (G : Nat → List PV → Store → Res PV) : bodyD T G f14 = b14 G := bodyD_of (by kernel_rfl)
theorem c14 (k : Nat) : callF T (k + 1) 14 = dDef 4 2 (b14 (callF T k)) := by
  rw [callF_at (i := 14) (f := f14) rfl k, e14]
  rfl
/-- _law_gcd -/
noncomputable def b15 (G : Nat → List PV → Store → Res PV) : Dns := (dSeq (dWh (dOp2 gNe (dBor 1) (dK (.int 0))) (dSeq (dPar 0 1 (dCons (dVar 1) (dCons (dOp2 gMod (dOp1 gInt (dBor 0)) (dBor 1)) dNil))) dSkip)) (dSeq (dRet (dOp1 gAbs (dBor 0))) dSkip))
theorem e15 (G : Nat → List PV → Store → Res PV) : bodyD T G f15 = b15 G := bodyD_of (by kernel_rfl)
theorem c15 (k : Nat) : callF T (k + 1) 15 = dDef 2 2 (b15 (callF T k)) := by
  rw [callF_at (i := 15) (f := f15) rfl k, e15]
  rfl
/-- _law_f -/
noncomputable def b16 (G : Nat → List PV → Store → Res PV) : Dns := (dSeq (dIfS (dOp2 gLt (dBor 1) (dK (.int 0))) (dSeq (dAsg 0 (dOp2 gSub (dK (.int 0)) (dBor 0))) (dSeq (dAsg 1 (dOp2 gSub (dK (.int 0)) (dBor 1))) dSkip)) dSkip) (dSeq (dAsg 2 (dCall (G 15) (dCons (dOp1 gAbs (dBor 0)) (dCons (dVar 1) dNil)))) (dSeq (dRet (dTup (dCons (dOp2 gDiv (dBor 0) (dBor 2)) (dCons (dOp2 gDiv (dBor 1) (dBor 2)) dNil)))) dSkip)))
theorem e16 (G : Nat → List PV → Store → Res PV) : bodyD T G f16 = b16 G := bodyD_of (by kernel_rfl)
theorem c16 (k : Nat) : callF T (k + 1) 16 = dDef 3 2 (b16 (callF T k)) := by
  rw [callF_at (i := 16) (f := f16) rfl k, e16]
  rfl
/-- _law_plus -/
noncomputable def b17 (G : Nat → List PV → Store → Res PV) : Dns := (dSeq (dRet (dCall (G 16) (dCons (dOp2 gAdd (dOp2 gMul (dOp2 gIx (dBor 0) (dK (.int 0))) (dOp2 gIx (dBor 1) (dK (.int 1)))) (dOp2 gMul (dOp2 gIx (dBor 1) (dK (.int 0))) (dOp2 gIx (dBor 0) (dK (.int 1))))) (dCons (dOp2 gMul (dOp2 gIx (dBor 0) (dK (.int 1))) (dOp2 gIx (dBor 1) (dK (.int 1)))) dNil)))) dSkip)
theorem e17 (G : Nat → List PV → Store → Res PV) : bodyD T G f17 = b17 G := bodyD_of (by kernel_rfl)
theorem c17 (k : Nat) : callF T (k + 1) 17 = dDef 2 2 (b17 (callF T k)) := by
  rw [callF_at (i := 17) (f := f17) rfl k, e17]
  rfl
/-- _law_minus -/
noncomputable def b18 (G : Nat → List PV → Store → Res PV) : Dns := (dSeq (dRet (dCall (G 16) (dCons (dOp2 gSub (dOp2 gMul (dOp2 gIx (dBor 0) (dK (.int 0))) (dOp2 gIx (dBor 1) (dK (.int 1)))) (dOp2 gMul (dOp2 gIx (dBor 1) (dK (.int 0))) (dOp2 gIx (dBor 0) (dK (.int 1))))) (dCons (dOp2 gMul (dOp2 gIx (dBor 0) (dK (.int 1))) (dOp2 gIx (dBor 1) (dK (.int 1)))) dNil)))) dSkip)
theorem e18 (G : Nat → List PV → Store → Res PV) : bodyD T G f18 = b18 G := bodyD_of (by kernel_rfl)
theorem c18 (k : Nat) : callF T (k + 1) 18 = dDef 2 2 (b18 (callF T k)) := by
  rw [callF_at (i := 18) (f := f18) rfl k, e18]
  rfl
/-- _law_times -/
noncomputable def b19 (G : Nat → List PV → Store → Res PV) : Dns := (dSeq (dRet (dCall (G 16) (dCons (dOp2 gMul (dOp2 gIx (dBor 0) (dK (.int 0))) (dOp2 gIx (dBor 1) (dK (.int 0)))) (dCons (dOp2 gMul (dOp2 gIx (dBor 0) (dK (.int 1))) (dOp2 gIx (dBor 1) (dK (.int 1)))) dNil)))) dSkip)
theorem e19 (G : Nat → List PV → Store → Res PV) : bodyD T G f19 = b19 G := bodyD_of (by kernel_rfl)
theorem c19 (k : Nat) : callF T (k + 1) 19 = dDef 2 2 (b19 (callF T k)) := by
  rw [callF_at (i := 19) (f := f19) rfl k, e19]
  rfl
/-- _law_spread -/
noncomputable def b20 (G : Nat → List PV → Store → Res PV) : Dns := (dSeq (dAsg 2 (dOp2 gIx (dTup (dCons (dTup (dCons (dK (.int 0)) (dCons (dK (.int 1)) dNil))) (dCons (dTup (dCons (dK (.int 0)) (dCons (dK (.int 1)) dNil))) (dCons (dTup (dCons (dK (.int 1)) (dCons (dK (.int 4)) dNil))) (dCons (dTup (dCons (dK (.int 1)) (dCons (dK (.int 2)) dNil))) (dCons (dTup (dCons (dK (.int 1)) (dCons (dK (.int 1)) dNil))) dNil)))))) (dCall (G 14) (dCons (dVar 0) (dCons (dK (.int 5)) dNil))))) (dSeq (dAsg 3 (dCall (G 18) (dCons (dVar 1) (dCons (dVar 2) dNil)))) (dSeq (dRet (dTup (dCons (dCall (G 17) (dCons (dVar 1) (dCons (dVar 2) dNil))) (dCons (dIf (dOp2 gGe (dOp2 gIx (dBor 3) (dK (.int 0))) (dK (.int 0))) (dVar 3) (dTup (dCons (dK (.int 0)) (dCons (dK (.int 1)) dNil)))) dNil)))) dSkip)))
theorem e20 (G : Nat → List PV → Store → Res PV) : bodyD T G f20 = b20 G := bodyD_of (by kernel_rfl)
theorem c20 (k : Nat) : callF T (k + 1) 20 = dDef 4 2 (b20 (callF T k)) := by
  rw [callF_at (i := 20) (f := f20) rfl k, e20]
  rfl
/-- _law_node -/
noncomputable def b21 (G : Nat → List PV → Store → Res PV) : Dns := (dSeq (dAsg 5 (dIf (dOp2 gEq (dBor 2) (dBor 3)) (dK (.int 0)) (dOp2 gAdd (dK (.int 1)) (dCall (G 14) (dCons (dVar 0) (dCons (dIf (dOp2 gEq (dBor 3) (dK (.int 1))) (dK (.int 3)) (dK (.int 2))) dNil)))))) (dSeq (dAsg 6 (dLc (dRng1 (dVar 5)) (tN 12) dTrue (dCall (G 21) (dCons (dVar 0) (dCons (dVar 1) (dCons (dOp2 gAdd (dBor 2) (dK (.int 1))) (dCons (dVar 3) (dCons (dVar 4) dNil)))))) [12])) (dSeq (dAsg 7 (dLc (dRng1 (dVar 5)) (tN 12) dTrue (dOp2 gAdd (dK (.int 1)) (dCall (G 14) (dCons (dVar 0) (dCons (dK (.int 3)) dNil)))) [12])) (dSeq (dAsgO 8 (dLst dNil)) (dSeq (dFor (dRng1 (dOp2 gSub (dBor 1) (dK (.int 1)))) (tN 9) (dSeq (dAsg 11 (dCall (G 16) (dCons (dCall (G 14) (dCons (dVar 0) (dCons (dK (.int 9)) dNil))) (dCons (dOp2 gAdd (dK (.int 1)) (dCall (G 14) (dCons (dVar 0) (dCons (dK (.int 2)) dNil)))) dNil)))) (dSeq (dIfS (dAnd (dOp2 gGt (dBor 5) (dK (.int 0))) (dNot (dVar 4))) (dSeq (dAsg 13 (dTup (dCons (dK (.int 0)) (dCons (dK (.int 1)) dNil)))) (dSeq (dFor (dRng1 (dVar 5)) (tN 12) (dSeq (dAsg 13 (dCall (G 17) (dCons (dVar 13) (dCons (dCall (G 19) (dCons (dOp2 gIx (dOp2 gIx (dOp2 gIx (dBor 6) (dBor 12)) (dK (.int 1))) (dBor 9)) (dCons (dTup (dCons (dOp2 gIx (dBor 7) (dBor 12)) (dCons (dK (.int 1)) dNil))) dNil))) dNil)))) dSkip)) (dSeq (dAsg 11 (dCall (G 19) (dCons (dVar 13) (dCons (dTup (dCons (dK (.int 1)) (dCons (dOp1 gSum (dBor 7)) dNil))) dNil)))) dSkip))) dSkip) (dSeq (dApp' 8 (dVar 11)) dSkip)))) (dSeq (dSeq (dFz 8) (dAsg 10 (dOp1 gTuple (dLc (dSeqI (dVar 8)) (tN 11) dTrue (dCall (G 20) (dCons (dVar 0) (dCons (dVar 11) dNil))) [11])))) (dSeq (dSeq (dFz 8) (dRet (dTup (dCons (dTup (dCons (dVar 10) (dCons (dOp1 gTuple (dLc (dSeqI (dVar 6)) (tN 14) dTrue (dOp2 gIx (dBor 14) (dK (.int 0))) [14])) dNil))) (dCons (dVar 8) dNil))))) dSkip)))))))
theorem e21 (G : Nat → List PV → Store → Res PV) : bodyD T G f21 = b21 G := bodyD_of (by kernel_rfl)
theorem c21 (k : Nat) : callF T (k + 1) 21 = dDef 15 5 (b21 (callF T k)) := by
  rw [callF_at (i := 21) (f := f21) rfl k, e21]
  rfl
/-- _law_market -/
noncomputable def b22 (G : Nat → List PV → Store → Res PV) : Dns := (dSeq (dAsg 2 (dOp2 gAdd (dK (.int 1)) (dCall (G 14) (dCons (dVar 0) (dCons (dVar 1) dNil))))) (dSeq (dIfS (dAnd (dOp2 gEq (dBor 2) (dK (.int 1))) (dOp2 gGt (dCall (G 14) (dCons (dVar 0) (dCons (dK (.int 3)) dNil))) (dK (.int 0)))) (dSeq (dAsg 2 (dK (.int 2))) dSkip) dSkip) (dSeq (dAsg 3 (dOp2 gEq (dCall (G 14) (dCons (dVar 0) (dCons (dK (.int 5)) dNil))) (dK (.int 1)))) (dSeq (dRet (dTup (dCons (dVar 2) (dCons (dOp2 gIx (dCall (G 21) (dCons (dVar 0) (dCons (dVar 2) (dCons (dK (.int 0)) (dCons (dCall (G 14) (dCons (dVar 0) (dCons (dK (.int 3)) dNil))) (dCons (dVar 3) dNil)))))) (dK (.int 0))) dNil)))) dSkip))))
theorem e22 (G : Nat → List PV → Store → Res PV) : bodyD T G f22 = b22 G := bodyD_of (by kernel_rfl)
theorem c22 (k : Nat) : callF T (k + 1) 22 = dDef 4 2 (b22 (callF T k)) := by
  rw [callF_at (i := 22) (f := f22) rfl k, e22]
  rfl
/-- _law_nodes -/
noncomputable def b23 (G : Nat → List PV → Store → Res PV) : Dns := (dSeq (dAsg 1 (dLst dNil)) (dSeq (dAsg 2 (dLst (dCons (dTup (dCons (dTup dNil) (dCons (dOp2 gIx (dBor 0) (dK (.int 1))) dNil))) dNil))) (dSeq (dFor (dRng1 (dK (.int 7))) (tN 3) (dSeq (dAsg 1 (dOp2 gAdd (dBor 1) (dBor 2))) (dSeq (dAsg 4 (dLst dNil)) (dSeq (dFor (dSeqI (dVar 2)) (tT [5, 6]) (dSeq (dAsg 4 (dOp2 gAdd (dBor 4) (dLc (dRng1 (dOp1 gLen (dOp2 gIx (dBor 6) (dK (.int 1))))) (tN 7) dTrue (dTup (dCons (dOp2 gAdd (dBor 5) (dTup (dCons (dVar 7) dNil))) (dCons (dOp2 gIx (dOp2 gIx (dBor 6) (dK (.int 1))) (dBor 7)) dNil))) [7]))) dSkip)) (dSeq (dAsg 2 (dVar 4)) dSkip))))) (dSeq (dRet (dLc (dSeqI (dOp1 gSorted (dLc (dSeqI (dVar 1)) (tN 8) dTrue (dOp2 gIx (dBor 8) (dK (.int 0))) [8]))) (tN 5) dTrue (dTup (dCons (dVar 5) (dCons (dCall (G 24) (dCons (dVar 0) (dCons (dVar 5) dNil))) dNil))) [5])) dSkip))))
theorem e23 (G : Nat → List PV → Store → Res PV) : bodyD T G f23 = b23 G := bodyD_of (by kernel_rfl)
theorem c23 (k : Nat) : callF T (k + 1) 23 = dDef 9 1 (b23 (callF T k)) := by
  rw [callF_at (i := 23) (f := f23) rfl k, e23]
  rfl
/-- _law_find -/
noncomputable def b24 (G : Nat → List PV → Store → Res PV) : Dns := (dSeq (dAsg 2 (dOp2 gIx (dBor 0) (dK (.int 1)))) (dSeq (dFor (dSeqI (dVar 1)) (tN 3) (dSeq (dIfS (dOr (dOp2 gLt (dBor 3) (dK (.int 0))) (dOp2 gGe (dBor 3) (dOp1 gLen (dOp2 gIx (dBor 2) (dK (.int 1)))))) (dSeq (dRet (dK .non)) dSkip) dSkip) (dSeq (dAsg 2 (dOp2 gIx (dOp2 gIx (dBor 2) (dK (.int 1))) (dBor 3))) dSkip))) (dSeq (dRet (dVar 2)) dSkip)))
theorem e24 (G : Nat → List PV → Store → Res PV) : bodyD T G f24 = b24 G := bodyD_of (by kernel_rfl)
theorem c24 (k : Nat) : callF T (k + 1) 24 = dDef 4 2 (b24 (callF T k)) := by
  rw [callF_at (i := 24) (f := f24) rfl k, e24]
  rfl
/-- _law_prices -/
noncomputable def b25 (G : Nat → List PV → Store → Res PV) : Dns := (dSeq (dRet (dOp2 gAdd (dTup (dCons (dTup (dCons (dTup (dCons (dK (.int 1)) (dCons (dK (.int 1)) dNil))) (dCons (dTup (dCons (dK (.int 1)) (dCons (dK (.int 1)) dNil))) dNil))) dNil)) (dOp2 gIx (dCall (G 24) (dCons (dVar 0) (dCons (dVar 1) dNil))) (dK (.int 0))))) dSkip)
theorem e25 (G : Nat → List PV → Store → Res PV) : bodyD T G f25 = b25 G := bodyD_of (by kernel_rfl)
theorem c25 (k : Nat) : callF T (k + 1) 25 = dDef 2 2 (b25 (callF T k)) := by
  rw [callF_at (i := 25) (f := f25) rfl k, e25]
  rfl
/-- _law_told -/
noncomputable def b26 (G : Nat → List PV → Store → Res PV) : Dns := (dSeq (dTry (dSeq (dIfS (dOp2 gEq (dBor 0) (dK (.int 0))) (dSeq (dAsg 4 (dCall (G 9) (dCons (dVar 1) (dCons (dVar 2) dNil)))) dSkip) (dSeq (dIfS (dOp2 gEq (dBor 0) (dK (.int 1))) (dSeq (dAsg 4 (dCall (G 11) (dCons (dVar 1) (dCons (dVar 2) dNil)))) dSkip) (dSeq (dAsg 4 (dCall (G 12) (dCons (dVar 1) (dCons (dVar 2) dNil)))) dSkip)) dSkip)) dSkip) (some 3) (knE (sxOf T f26)) (fun er => (Err.is er .base)) (fun er => (dSeq (dRet (dOp2 gAdd (dIf (dIsE 3 (Err.is er .market)) (dK (.str (PySem.Str.ofString "market"))) (dK (.str (PySem.Str.ofString "")))) (dIf (dIsE 3 (Err.is er .moment)) (dK (.str (PySem.Str.ofString "moment"))) (dK (.str (PySem.Str.ofString "")))))) dSkip))) (dSeq (dRet (dVar 4)) dSkip))
theorem e26 (G : Nat → List PV → Store → Res PV) : bodyD T G f26 = b26 G := bodyD_of (by kernel_rfl)
theorem c26 (k : Nat) : callF T (k + 1) 26 = dDef 5 3 (b26 (callF T k)) := by
  rw [callF_at (i := 26) (f := f26) rfl k, e26]
  rfl
/-- _law_order -/
noncomputable def b27 (G : Nat → List PV → Store → Res PV) : Dns := (dSeq (dAsg 2 (dLW (dRng2 (dK (.int 1)) (dVar 1)))) (dSeq (dAsgO 3 (dLst (dCons (dK (.int 0)) dNil))) (dSeq (dFor (dRng1 (dOp2 gSub (dBor 1) (dK (.int 1)))) (tN 4) (dSeq (dAsg 5 (dCall (G 14) (dCons (dVar 0) (dCons (dOp1 gLen (dBor 2)) dNil)))) (dSeq (dApp' 3 (dOp2 gIx (dBor 2) (dBor 5))) (dSeq (dAsg 2 (dOp2 gAdd (dSl gSl (dBor 2) dNoPart (dPart (dVar 5))) (dSl gSl (dBor 2) (dPart (dOp2 gAdd (dBor 5) (dK (.int 1)))) dNoPart))) dSkip)))) (dSeq (dRet (dOp1 gTuple (dBor 3))) dSkip))))
theorem e27 (G : Nat → List PV → Store → Res PV) : bodyD T G f27 = b27 G := bodyD_of (by kernel_rfl)
theorem c27 (k : Nat) : callF T (k + 1) 27 = dDef 6 2 (b27 (callF T k)) := by
  rw [callF_at (i := 27) (f := f27) rfl k, e27]
  rfl
/-- law -/
noncomputable def b28 (G : Nat → List PV → Store → Res PV) : Dns := (dSeq (dAsg 1 (dCall (G 13) (dCons (dVar 0) dNil))) (dSeq (dAsg 2 (dCall (G 22) (dCons (dVar 1) (dCons (dK (.int 4)) dNil)))) (dSeq (dAsg 3 (dCall (G 16) (dCons (dOp2 gAdd (dK (.int 2)) (dCall (G 14) (dCons (dVar 1) (dCons (dK (.int 5)) dNil)))) (dCons (dOp2 gAdd (dK (.int 1)) (dCall (G 14) (dCons (dVar 1) (dCons (dK (.int 2)) dNil)))) dNil)))) (dSeq (dAsg 4 (dCall (G 27) (dCons (dVar 1) (dCons (dOp2 gIx (dBor 2) (dK (.int 0))) dNil)))) (dSeq (dAsg 5 (dCall (G 26) (dCons (dK (.int 0)) (dCons (dVar 2) (dCons (dVar 3) dNil))))) (dSeq (dAsg 6 (dCall (G 26) (dCons (dK (.int 1)) (dCons (dVar 2) (dCons (dVar 4) dNil))))) (dSeq (dAsg 7 (dLc (dSeqI (dCall (G 23) (dCons (dVar 2) dNil))) (tT [8, 12]) dTrue (dVar 8) [8, 12])) (dSeq (dIfS (dOr (dOp2 gNe (dLc (dSeqI (dCall (G 23) (dCons (dVar 5) dNil))) (tT [8, 12]) dTrue (dVar 8) [8, 12]) (dBor 7)) (dOp2 gNe (dLc (dSeqI (dCall (G 23) (dCons (dVar 6) dNil))) (tT [8, 12]) dTrue (dVar 8) [8, 12]) (dBor 7))) (dSeq (dRet (dK (.bl false))) dSkip) dSkip) (dSeq (dFor (dSeqI (dVar 7)) (tN 8) (dSeq (dAsg 10 (dCall (G 25) (dCons (dVar 2) (dCons (dVar 8) dNil)))) (dSeq (dAsg 11 (dLc (dRng2 (dK (.int 1)) (dOp2 gIx (dBor 2) (dK (.int 0)))) (tN 13) dTrue (dTup (dCons (dCall (G 19) (dCons (dOp2 gIx (dOp2 gIx (dBor 10) (dBor 13)) (dK (.int 0))) (dCons (dVar 3) dNil))) (dCons (dCall (G 16) (dCons (dOp2 gMul (dOp2 gIx (dOp2 gIx (dOp2 gIx (dBor 10) (dBor 13)) (dK (.int 1))) (dK (.int 0))) (dOp2 gIx (dBor 3) (dK (.int 1)))) (dCons (dOp2 gMul (dOp2 gIx (dOp2 gIx (dOp2 gIx (dBor 10) (dBor 13)) (dK (.int 1))) (dK (.int 1))) (dOp2 gIx (dBor 3) (dK (.int 0)))) dNil))) dNil))) [13])) (dSeq (dIfS (dOr (dOp2 gNe (dOp2 gIx (dCall (G 24) (dCons (dVar 5) (dCons (dVar 8) dNil))) (dK (.int 0))) (dOp1 gTuple (dBor 11))) (dOp2 gNe (dCall (G 25) (dCons (dVar 6) (dCons (dVar 8) dNil))) (dOp1 gTuple (dLc (dSeqI (dVar 4)) (tN 13) dTrue (dOp2 gIx (dBor 10) (dBor 13)) [13])))) (dSeq (dRet (dK (.bl false))) dSkip) dSkip) (dSeq (dIfS (dOp2 gNe (dCall (G 26) (dCons (dK (.int 2)) (dCons (dVar 2) (dCons (dVar 8) dNil)))) (dTup (dCons (dOp2 gIx (dBor 2) (dK (.int 0))) (dCons (dCall (G 24) (dCons (dVar 2) (dCons (dVar 8) dNil))) dNil)))) (dSeq (dRet (dK (.bl false))) dSkip) dSkip) dSkip))))) (dSeq (dIfS (dOr (dOp2 gNe (dOp2 gIx (dBor 5) (dK (.int 0))) (dOp2 gIx (dBor 2) (dK (.int 0)))) (dOr (dOp2 gNe (dOp2 gIx (dBor 6) (dK (.int 0))) (dOp2 gIx (dBor 2) (dK (.int 0)))) (dOr (dOp2 gNe (dCall (G 26) (dCons (dK (.int 0)) (dCons (dVar 2) (dCons (dTup (dCons (dK (.int 1)) (dCons (dK (.int 1)) dNil))) dNil)))) (dBor 2)) (dOp2 gNe (dCall (G 26) (dCons (dK (.int 0)) (dCons (dVar 2) (dCons (dTup (dCons (dK (.int 8)) (dCons (dK (.int 9)) dNil))) dNil)))) (dK (.str (PySem.Str.ofString "market"))))))) (dSeq (dRet (dK (.bl false))) dSkip) dSkip) (dSeq (dAsg 9 (dOp2 gIx (dTup (dCons (dOp2 gAdd (dTup (dCons (dK (.int 1)) dNil)) (dSl gSl (dBor 4) (dPart (dK (.int 1))) dNoPart)) (dCons (dOp2 gAdd (dBor 4) (dTup (dCons (dK (.int 0)) dNil))) (dCons (dSl gSl (dBor 4) dNoPart (dPart (dNeg (dK (.int 1))))) dNil)))) (dCall (G 14) (dCons (dVar 1) (dCons (dK (.int 3)) dNil))))) (dSeq (dRet (dAnd (dOp2 gEq (dCall (G 26) (dCons (dK (.int 1)) (dCons (dVar 2) (dCons (dVar 9) dNil)))) (dK (.str (PySem.Str.ofString "market")))) (dAnd (dOp2 gEq (dCall (G 26) (dCons (dK (.int 2)) (dCons (dVar 2) (dCons (dTup (dCons (dK (.int 7)) dNil)) dNil)))) (dK (.str (PySem.Str.ofString "moment")))) (dOp2 gEq (dCall (G 26) (dCons (dK (.int 1)) (dCons (dVar 2) (dCons (dTW (dRng1 (dOp2 gIx (dBor 2) (dK (.int 0))))) dNil)))) (dBor 2))))) dSkip))))))))))))
theorem e28 (G : Nat → List PV → Store → Res PV) : bodyD T G f28 = b28 G := bodyD_of (by kernel_rfl)
theorem c28 (k : Nat) : callF T (k + 1) 28 = dDef 14 1 (b28 (callF T k)) := by
  rw [callF_at (i := 28) (f := f28) rfl k, e28]
  rfl
end Py.k04
namespace Py.k04
open PySem PySem.Spec PyProof.Rows L2
def lo0 : List Str := ["gcd", "__name__", "MarketplaceError", "ZeroDenominator", "MarketError", "TooLarge", "MomentError", "ONE", "fraction", "times", "over", "compare", "GOODS_LIMIT", "MOMENT_LIMIT", "TIME_LIMIT", "nodes_of", "right_prices", "check_market", "node_at", "wider_node", "widened", "turned_node", "turned", "market_at", "_law_begin", "_law_take", "_law_gcd", "_law_f", "_law_plus", "_law_minus"]
def lo1 : List Str := ["_law_times", "_law_spread", "_law_node", "_law_market", "_law_nodes", "_law_find", "_law_prices", "_law_told", "_law_order"]
abbrev lo : List Str := lo0 ++ lo1
abbrev R : PySem.W.OpenRow := PySem.W.OpenLaw.row PySem.Challenge.rw_nolunch_k04_markets_from_markets
def fa : List He.Fa := [.glo "law"]
def dl : List He.DefD := T.fs.map (·.d)
abbrev hk : PySem.W.Hook := He.hookX 5 fa dl [] [] (modB T)
def ob (s : PySem.W.SharedT) : He.AlX := He.obsX 5 fa dl [] [] (modB T) (HandSHeadRun.getT s)
theorem ob_eq (s : PySem.W.SharedT) : ob s = hk.obs s.abs := He.obsX_eq (HandSHeadRun.getT_eq s)
theorem run (w : World) : HandSHeadRun.RunEqI R (PySem.W.view R.prog [0, 43]) hk ob 6000 lo w := by
  unfold HandSHeadRun.RunEqI
  kernel_rfl
end Py.k04
namespace Py.k04
open PySem PySem.Spec L2
theorem s_compare (k : Nat) : callF T (k + 1) 3 = F_compare  := c3 k
theorem s_nodes_of (k : Nat) : callF T (k + 1) 4 = F_nodes_of  := c4 k
theorem s_right_prices (k : Nat) : callF T (k + 1) 5 = F_right_prices (callF T k 3) := c5 k
theorem s_check_market (k : Nat) : callF T (k + 1) 6 = F_check_market (callF T k 4) (callF T k 5) := c6 k
theorem s_node_at (k : Nat) : callF T (k + 1) 7 = F_node_at  := c7 k
theorem s_law_begin (k : Nat) : callF T (k + 1) 13 = F_law_begin  := c13 k
theorem s_law_take (k : Nat) : callF T (k + 1) 14 = F_law_take  := c14 k
theorem s_law_gcd (k : Nat) : callF T (k + 1) 15 = F_law_gcd  := c15 k
theorem s_law_f (k : Nat) : callF T (k + 1) 16 = F_law_f (callF T k 15) := c16 k
theorem s_law_plus (k : Nat) : callF T (k + 1) 17 = F_law_plus (callF T k 16) := c17 k
theorem s_law_minus (k : Nat) : callF T (k + 1) 18 = F_law_minus (callF T k 16) := c18 k
theorem s_law_times (k : Nat) : callF T (k + 1) 19 = F_law_times (callF T k 16) := c19 k
theorem s_law_spread (k : Nat) : callF T (k + 1) 20 = F_law_spread (callF T k 14) (callF T k 18) (callF T k 17) := c20 k
theorem s_law_node (k : Nat) : callF T (k + 1) 21 = F_law_node (callF T k 14) (callF T k 21) (callF T k 16) (callF T k 17) (callF T k 19) (callF T k 20) := c21 k
theorem s_law_market (k : Nat) : callF T (k + 1) 22 = F_law_market (callF T k 14) (callF T k 21) := c22 k
theorem s_law_nodes (k : Nat) : callF T (k + 1) 23 = F_law_nodes (callF T k 24) := c23 k
theorem s_law_find (k : Nat) : callF T (k + 1) 24 = F_law_find  := c24 k
theorem s_law_prices (k : Nat) : callF T (k + 1) 25 = F_law_prices (callF T k 24) := c25 k
theorem s_fraction (k : Nat) : callF T (k + 1) 0 = F_fraction  := c0 k
theorem s_times (k : Nat) : callF T (k + 1) 1 = F_times (callF T k 0) := c1 k
theorem s_over (k : Nat) : callF T (k + 1) 2 = F_over (callF T k 0) := c2 k
theorem s_wider_node (k : Nat) : callF T (k + 1) 8 = F_wider_node (callF T k 1) (callF T k 2) (callF T k 8) := c8 k
theorem s_widened (k : Nat) : callF T (k + 1) 9 = F_widened (callF T k 6) (callF T k 3) (callF T k 8) := c9 k
theorem s_turned_node (k : Nat) : callF T (k + 1) 10 = F_turned_node (callF T k 10) := c10 k
theorem s_turned (k : Nat) : callF T (k + 1) 11 = F_turned (callF T k 6) (callF T k 10) := c11 k
theorem s_market_at (k : Nat) : callF T (k + 1) 12 = F_market_at (callF T k 6) (callF T k 7) := c12 k
end Py.k04
/-! The plain law: markets from markets. -/
namespace Py.k04
open PySem PySem.Spec L2

def errS : Err → PV
  | .market => .str "market"
  | .moment => .str "moment"
  | _ => .non
abbrev T2 (e : Err) : Prop := e = .market ∨ e = .moment
section
variable {G : Nat → List PV → Store → Res PV} {S : Store}
theorem handler {er : Err} (h : T2 er) {c0 c1 c2 c4 : Cell} : flo (leaveX (some 3) (((fun er => (dSeq (dRet (dOp2 gAdd (dIf (dIsE 3 (Err.is er .market)) (dK (.str (PySem.Str.ofString "market"))) (dK (.str (PySem.Str.ofString "")))) (dIf (dIsE 3 (Err.is er .moment)) (dK (.str (PySem.Str.ofString "moment"))) (dK (.str (PySem.Str.ofString "")))))) dSkip)) : Err → Dns) er [c0, c1, c2, .ex, c4] S)) = .ok (errS er) S := by
  rcases h with rfl | rfl <;> kernel_rfl
theorem kn (er : Err) (h : T2 er) : knE (sxOf T f26) er = true := by
  rcases h with rfl | rfl <;> decide +kernel
theorem told_exc {er : Err} {c0 c1 c2 : PV} {b : Dns} (h : T2 er) (hb : b [.fz c0, .fz c1, .fz c2, .un, .un] S = .exc er [.fz c0, .fz c1, .fz c2, .un, .un] S) :
    flo (sqF (dTry b (some 3) (knE (sxOf T f26)) (fun er => (Err.is er .base)) (fun er => (dSeq (dRet (dOp2 gAdd (dIf (dIsE 3 (Err.is er .market)) (dK (.str (PySem.Str.ofString "market"))) (dK (.str (PySem.Str.ofString "")))) (dIf (dIsE 3 (Err.is er .moment)) (dK (.str (PySem.Str.ofString "moment"))) (dK (.str (PySem.Str.ofString "")))))) dSkip)) [.fz c0, .fz c1, .fz c2, .un, .un] S) (dSeq (dRet (dVar 4)) dSkip)) = .ok (errS er) S := by
  rw [try_exc hb (kn er h) (by rcases h with rfl | rfl <;> decide +kernel) rfl]
  have := handler (S := S) h (c0 := .fz c0) (c1 := .fz c1) (c2 := .fz c2) (c4 := .un)
  rcases h with rfl | rfl <;> exact this
theorem told_ok {c0 c1 c2 v : PV} {b : Dns} {kn cl : Err → Bool} {hd : Err → Dns} (hb : b [.fz c0, .fz c1, .fz c2, .un, .un] S = .nx [.fz c0, .fz c1, .fz c2, .un, .fz v] S) :
    flo (sqF (dTry b (some 3) kn cl hd [.fz c0, .fz c1, .fz c2, .un, .un] S) (dSeq (dRet (dVar 4)) dSkip)) = .ok v S := by
  rw [try_nx hb]
  rfl
theorem told0_exc {er : Err} {m x : PV} (h : T2 er) (e : G 9 [m, x] S = .exc er S) : dDef 5 3 (b26 G) [.int 0, m, x] S = .ok (errS er) S := by
  show flo (b26 G [.fz (.int 0), .fz m, .fz x, .un, .un] S) = _
  unfold b26
  rw [dSeq_ap]
  exact told_exc h (by simp -implicitDefEqProofs only [EVc, Nat.reduceSub, Int.reduceLT, Int.reduceLE, Int.reduceEq, Int.reduceSub, Int.reduceAdd, Int.reduceMul, Int.reduceNeg, List.replicate, wipeE, List.replicate_zero, List.getElem?_cons_zero, List.getElem?_cons_succ, List.set_cons_succ, List.set_cons_zero, Option.map_some, if_true, if_false, e])
theorem told0_ok {m x v : PV} (e : G 9 [m, x] S = .ok v S) : dDef 5 3 (b26 G) [.int 0, m, x] S = .ok v S := by
  show flo (b26 G [.fz (.int 0), .fz m, .fz x, .un, .un] S) = _
  unfold b26
  rw [dSeq_ap]
  exact told_ok (by simp -implicitDefEqProofs only [EVc, Nat.reduceSub, Int.reduceLT, Int.reduceLE, Int.reduceEq, Int.reduceSub, Int.reduceAdd, Int.reduceMul, Int.reduceNeg, List.replicate, wipeE, List.replicate_zero, List.getElem?_cons_zero, List.getElem?_cons_succ, List.set_cons_succ, List.set_cons_zero, Option.map_some, if_true, if_false, e])
theorem told1_exc {er : Err} {m x : PV} (h : T2 er) (e : G 11 [m, x] S = .exc er S) : dDef 5 3 (b26 G) [.int 1, m, x] S = .ok (errS er) S := by
  show flo (b26 G [.fz (.int 1), .fz m, .fz x, .un, .un] S) = _
  unfold b26
  rw [dSeq_ap]
  exact told_exc h (by simp -implicitDefEqProofs only [EVc, Nat.reduceSub, Int.reduceLT, Int.reduceLE, Int.reduceEq, Int.reduceSub, Int.reduceAdd, Int.reduceMul, Int.reduceNeg, List.replicate, wipeE, List.replicate_zero, List.getElem?_cons_zero, List.getElem?_cons_succ, List.set_cons_succ, List.set_cons_zero, Option.map_some, if_true, if_false, e])
theorem told1_ok {m x v : PV} (e : G 11 [m, x] S = .ok v S) : dDef 5 3 (b26 G) [.int 1, m, x] S = .ok v S := by
  show flo (b26 G [.fz (.int 1), .fz m, .fz x, .un, .un] S) = _
  unfold b26
  rw [dSeq_ap]
  exact told_ok (by simp -implicitDefEqProofs only [EVc, Nat.reduceSub, Int.reduceLT, Int.reduceLE, Int.reduceEq, Int.reduceSub, Int.reduceAdd, Int.reduceMul, Int.reduceNeg, List.replicate, wipeE, List.replicate_zero, List.getElem?_cons_zero, List.getElem?_cons_succ, List.set_cons_succ, List.set_cons_zero, Option.map_some, if_true, if_false, e])
theorem told2_exc {er : Err} {m x : PV} (h : T2 er) (e : G 12 [m, x] S = .exc er S) : dDef 5 3 (b26 G) [.int 2, m, x] S = .ok (errS er) S := by
  show flo (b26 G [.fz (.int 2), .fz m, .fz x, .un, .un] S) = _
  unfold b26
  rw [dSeq_ap]
  exact told_exc h (by simp -implicitDefEqProofs only [EVc, Nat.reduceSub, Int.reduceLT, Int.reduceLE, Int.reduceEq, Int.reduceSub, Int.reduceAdd, Int.reduceMul, Int.reduceNeg, List.replicate, wipeE, List.replicate_zero, List.getElem?_cons_zero, List.getElem?_cons_succ, List.set_cons_succ, List.set_cons_zero, Option.map_some, if_true, if_false, e])
theorem told2_ok {m x v : PV} (e : G 12 [m, x] S = .ok v S) : dDef 5 3 (b26 G) [.int 2, m, x] S = .ok v S := by
  show flo (b26 G [.fz (.int 2), .fz m, .fz x, .un, .un] S) = _
  unfold b26
  rw [dSeq_ap]
  exact told_ok (by simp -implicitDefEqProofs only [EVc, Nat.reduceSub, Int.reduceLT, Int.reduceLE, Int.reduceEq, Int.reduceSub, Int.reduceAdd, Int.reduceMul, Int.reduceNeg, List.replicate, wipeE, List.replicate_zero, List.getElem?_cons_zero, List.getElem?_cons_succ, List.set_cons_succ, List.set_cons_zero, Option.map_some, if_true, if_false, e])
structure ToldOk (f : PF) : Prop where
  w : ∀ (g h : Nat) (n : Nd) (a : Fr) S, MkG g h n → a.bd 10 → 0 < a.n → f [.int 0, mkt (g : Int) n, a.pv] S = .ok (if a.lt Fr.one = true then .str "market" else mkt (g : Int) (n.mapP (wideP a))) S
  t1 : ∀ (g h : Nat) (n : Nd) (o : List Nat) S, MkG g h n → o.length ≤ 10 → o.length ≠ g → f [.int 1, mkt (g : Int) n, ord o] S = .ok (.str "market") S
  t2 : ∀ (g h : Nat) (n : Nd) (o : List Nat) S, MkG g h n → o.length ≤ 10 → ∀ k r, o = (k + 1) :: r → f [.int 1, mkt (g : Int) n, ord o] S = .ok (.str "market") S
  t3 : ∀ (g h : Nat) (n : Nd) (o : List Nat) S, MkG g h n → o.length ≤ 10 → ∀ r, o = 0 :: r → o.Perm (List.range g) → f [.int 1, mkt (g : Int) n, ord o] S = .ok (mkt (g : Int) (n.mapP (turnP r))) S
  a : ∀ (g h : Nat) (n : Nd) (q : List Int) S, MkG g h n → f [.int 2, mkt (g : Int) n, pai q] S = .ok (match findI n q with | some m => mkt (g : Int) m | none => .str "moment") S
theorem told_F (h9 : WidenedOk (G 9)) (h11 : TurnedOk (G 11)) (h12 : ∀ (g h : Nat) (n : Nd) (q : List Int) S, MkG g h n → G 12 [mkt (g : Int) n, pai q] S = match findI n q with | some m => .ok (mkt (g : Int) m) S | none => .exc .moment S) : ToldOk (dDef 5 3 (b26 G)) where
  w := fun g h n a S M ha h0 => by
    have e := h9 g h n a S M ha h0
    by_cases hl : a.lt Fr.one = true
    · rw [if_pos hl] at e ⊢
      exact told0_exc (.inl rfl) e
    · rw [if_neg hl] at e ⊢
      exact told0_ok e
  t1 := fun g h n o S M ho hl => told1_exc (er := .market) (.inl rfl) ((h11 g h n o S M ho).1 hl)
  t2 := fun g h n o S M ho k r he => told1_exc (er := .market) (.inl rfl) ((h11 g h n o S M ho).2.1 k r he)
  t3 := fun g h n o S M ho r he hp => told1_ok ((h11 g h n o S M ho).2.2 r he hp)
  a := fun g h n q S M => by
    have e := h12 g h n q S M
    cases ef : findI n q with
    | none => rw [ef] at e; exact told2_exc (.inr rfl) e
    | some m => rw [ef] at e; exact told2_ok e
theorem market_at_F {c k : PF} (hc : CheckMOk c) (hk : NodeAtOk k) (g h : Nat) (n : Nd) (q : List Int) (S : Store) (M : MkG g h n) : F_market_at c k [mkt (g : Int) n, pai q] S = match findI n q with | some m => .ok (mkt (g : Int) m) S | none => .exc .moment S := by
  refine Sat.eqv ?_
  rw [A_market_at]; unfold D_market_at
  simp -implicitDefEqProofs only [EVc, Nat.reduceSub, Int.reduceLT, Int.reduceLE, Int.reduceEq, Int.reduceSub, Int.reduceAdd, Int.reduceMul, Int.reduceNeg, List.replicate, wipeE, List.replicate_zero, List.getElem?_cons_zero, List.getElem?_cons_succ, List.set_cons_succ, List.set_cons_zero, Option.map_some, if_true, if_false]
  rw [hc (g : Int) n S M.ok, M.chk]
  simp -implicitDefEqProofs only [EVc, Nat.reduceSub, Int.reduceLT, Int.reduceLE, Int.reduceEq, Int.reduceSub, Int.reduceAdd, Int.reduceMul, Int.reduceNeg, List.replicate, wipeE, List.replicate_zero, List.getElem?_cons_zero, List.getElem?_cons_succ, List.set_cons_succ, List.set_cons_zero, Option.map_some, if_true, if_false]
  rw [hk n (g : Int) q S]
  cases findI n q with
  | none => try simp -implicitDefEqProofs only [EVc, Nat.reduceSub, Int.reduceLT, Int.reduceLE, Int.reduceEq, Int.reduceSub, Int.reduceAdd, Int.reduceMul, Int.reduceNeg, List.replicate, wipeE, List.replicate_zero, List.getElem?_cons_zero, List.getElem?_cons_succ, List.set_cons_succ, List.set_cons_zero, Option.map_some, if_true, if_false]
            (try first | trivial | exact ⟨rfl, rfl⟩ | exact ⟨rfl, trivial⟩ | rfl)
  | some m => try simp -implicitDefEqProofs only [EVc, Nat.reduceSub, Int.reduceLT, Int.reduceLE, Int.reduceEq, Int.reduceSub, Int.reduceAdd, Int.reduceMul, Int.reduceNeg, List.replicate, wipeE, List.replicate_zero, List.getElem?_cons_zero, List.getElem?_cons_succ, List.set_cons_succ, List.set_cons_zero, Option.map_some, if_true, if_false]
              (try first | trivial | exact ⟨rfl, rfl⟩ | exact ⟨rfl, trivial⟩ | rfl)
/-! ### an order drawn -/
def OrdOk (f : PF) : Prop := ∀ R S (g : Nat), Dr R S → 1 ≤ g → g ≤ 4 → Sat (f [.ref 0, .int (g : Int)] S) (fun v S' => ∃ r : List Nat, v = ord (0 :: r) ∧ (0 :: r).Perm (List.range g) ∧ Dr R S') noE
theorem pick_perm {l : List Nat} {i : Nat} (h : i < l.length) : l.Perm (l[i] :: (l.take i ++ l.drop (i + 1))) := by
  have e : l = l.take i ++ l[i] :: l.drop (i + 1) := by rw [List.getElem_cons_drop, List.take_append_drop]
  exact (List.Perm.of_eq e).trans List.perm_middle
theorem order_F (ht : TakeOk (G 14)) : OrdOk (dDef 6 2 (b27 G)) := fun R S g hd g1 g4 => by
  show Sat (flo (b27 G [.fz (.ref 0), .fz (.int (g : Int)), .un, .un, .un, .un] S)) _ _
  unfold b27
  have zz : 2000 ≤ sz := by decide
  simp -implicitDefEqProofs only [EVc, Nat.reduceSub, Int.reduceLT, Int.reduceLE, Int.reduceEq, Int.reduceSub, Int.reduceAdd, Int.reduceMul, Int.reduceNeg, List.replicate, wipeE, List.replicate_zero, List.getElem?_cons_zero, List.getElem?_cons_succ, List.set_cons_succ, List.set_cons_zero, Option.map_some, if_true, if_false]
  rw [rng2F_e (i := 1) (j := (g : Int)) (a := 1) (b := g) rfl rfl g1 (Nat.lt_of_le_of_lt g4 (by decide))]
  simp -implicitDefEqProofs only [EVc, Nat.reduceSub, Int.reduceLT, Int.reduceLE, Int.reduceEq, Int.reduceSub, Int.reduceAdd, Int.reduceMul, Int.reduceNeg, List.replicate, wipeE, List.replicate_zero, List.getElem?_cons_zero, List.getElem?_cons_succ, List.set_cons_succ, List.set_cons_zero, Option.map_some, if_true, if_false]
  rw [show (g : Int) - 1 = ((g - 1 : Nat) : Int) by omega]
  rw [rng1F_n (Nat.lt_of_le_of_lt (show g - 1 ≤ 4 by omega) (by decide))]
  simp -implicitDefEqProofs only [EVc, Nat.reduceSub, Int.reduceLT, Int.reduceLE, Int.reduceEq, Int.reduceSub, Int.reduceAdd, Int.reduceMul, Int.reduceNeg, List.replicate, wipeE, List.replicate_zero, List.getElem?_cons_zero, List.getElem?_cons_succ, List.set_cons_succ, List.set_cons_zero, Option.map_some, if_true, if_false]
  refine SatF_for (fun (j : Nat) => PV.int j) (fun dn l ρ S' => Dr R S' ∧ ∃ (out left : List Nat) (c4 c5 : Cell), left.length = l.length ∧ out.length + left.length = g - 1 ∧ (out ++ left).Perm (List.range' 1 (g - 1)) ∧ ρ = [.fz (.ref 0), .fz (.int (g : Int)), .fz (.lst (left.map fun (k : Nat) => PV.int k)), .ow (.lst ((0 :: out).map fun (k : Nat) => PV.int k)), c4, c5]) (List.range (g - 1)) [] _ _
    ⟨hd, [], List.range' 1 (g - 1), .un, .un, by rw [List.length_range', List.length_range], by rw [List.length_range']; exact Nat.zero_add _, List.Perm.refl _, rfl⟩ ?_ ?_
  · rintro dn j l ρ S' ⟨d0, out, left, c4, c5, hl, hlen, hp, rfl⟩
    refine ⟨_, rfl, ?_⟩
    rw [List.length_cons] at hl
    obtain ⟨r, S1, e1, r0, r5, d1⟩ := ht R S' (left.length : Int) d0 (by omega) (okI_small (by omega))
    simp -implicitDefEqProofs only [EVc, Nat.reduceSub, Int.reduceLT, Int.reduceLE, Int.reduceEq, Int.reduceSub, Int.reduceAdd, Int.reduceMul, Int.reduceNeg, List.replicate, wipeE, List.replicate_zero, List.getElem?_cons_zero, List.getElem?_cons_succ, List.set_cons_succ, List.set_cons_zero, Option.map_some, if_true, if_false, List.length_map]
    rw [e1]
    simp -implicitDefEqProofs only [EVc, Nat.reduceSub, Int.reduceLT, Int.reduceLE, Int.reduceEq, Int.reduceSub, Int.reduceAdd, Int.reduceMul, Int.reduceNeg, List.replicate, wipeE, List.replicate_zero, List.getElem?_cons_zero, List.getElem?_cons_succ, List.set_cons_succ, List.set_cons_zero, Option.map_some, if_true, if_false]
    have hr : r.toNat < left.length := by omega
    have er : r = (r.toNat : Int) := by omega
    generalize r.toNat = i at *
    subst er
    have ix : lift2 gIx (.lst (left.map fun (k : Nat) => PV.int k)) (.int (i : Int)) S1 = .ok (.int ((left[i] : Nat) : Int)) S1 := ixL (by rw [List.getElem?_map, List.getElem?_eq_getElem hr]; rfl)
    rw [ix]
    simp -implicitDefEqProofs only [EVc, Nat.reduceSub, Int.reduceLT, Int.reduceLE, Int.reduceEq, Int.reduceSub, Int.reduceAdd, Int.reduceMul, Int.reduceNeg, List.replicate, wipeE, List.replicate_zero, List.getElem?_cons_zero, List.getElem?_cons_succ, List.set_cons_succ, List.set_cons_zero, Option.map_some, if_true, if_false]
    rw [push_ok (by rw [List.length_map, List.length_cons]; omega)]
    simp -implicitDefEqProofs only [EVc, Nat.reduceSub, Int.reduceLT, Int.reduceLE, Int.reduceEq, Int.reduceSub, Int.reduceAdd, Int.reduceMul, Int.reduceNeg, List.replicate, wipeE, List.replicate_zero, List.getElem?_cons_zero, List.getElem?_cons_succ, List.set_cons_succ, List.set_cons_zero, Option.map_some, if_true, if_false]
    have k1 : cutP (left.map fun (k : Nat) => PV.int k) none (some (i : Int)) = (left.take i).map fun (k : Nat) => PV.int k := by rw [cut_toA, List.map_take]
    have k2 : cutP (left.map fun (k : Nat) => PV.int k) (some ((i : Int) + 1)) none = (left.drop (i + 1)).map fun (k : Nat) => PV.int k := by
      have := cut_from (xs := left.map fun (k : Nat) => PV.int k) (k := i + 1) (by rw [List.length_map]; omega)
      rw [show ((i + 1 : Nat) : Int) = (i : Int) + 1 by omega] at this
      rw [this, List.map_drop]
    rw [k1, k2, l2_addLs (by rw [List.length_map, List.length_map, List.length_take, List.length_drop]; omega)]
    simp -implicitDefEqProofs only [EVc, Nat.reduceSub, Int.reduceLT, Int.reduceLE, Int.reduceEq, Int.reduceSub, Int.reduceAdd, Int.reduceMul, Int.reduceNeg, List.replicate, wipeE, List.replicate_zero, List.getElem?_cons_zero, List.getElem?_cons_succ, List.set_cons_succ, List.set_cons_zero, Option.map_some, if_true, if_false]
    refine ⟨d1, out ++ [left[i]], left.take i ++ left.drop (i + 1), _, _, by rw [List.length_append, List.length_take, List.length_drop]; omega, by rw [List.length_append, List.length_append, List.length_take, List.length_drop, List.length_singleton]; omega, ?_, by rw [List.map_append (l₁ := left.take i), List.map_cons (l := out ++ [left[i]]), List.map_append (l₁ := out), List.map_cons]; rfl⟩
    rw [List.append_assoc]
    exact ((pick_perm hr).symm.append_left out).trans hp
  · intro dn ρ S' hI
    obtain ⟨d0, out, left, c4, c5, hl, hlen, hp, hρ⟩ := hI
    subst hρ
    have : left = [] := List.length_eq_zero_iff.mp hl
    subst this
    rw [List.append_nil] at hp
    simp -implicitDefEqProofs only [EVc, Nat.reduceSub, Int.reduceLT, Int.reduceLE, Int.reduceEq, Int.reduceSub, Int.reduceAdd, Int.reduceMul, Int.reduceNeg, List.replicate, wipeE, List.replicate_zero, List.getElem?_cons_zero, List.getElem?_cons_succ, List.set_cons_succ, List.set_cons_zero, Option.map_some, if_true, if_false]
    refine ⟨out, rfl, ?_, d0⟩
    have : List.range g = 0 :: List.range' 1 (g - 1) := by
      rw [List.range_eq_range']
      cases g with
      | zero => omega
      | succ g => rw [List.range'_succ, Nat.add_sub_cancel]
    rw [this]
    exact hp.cons 0
end
end Py.k04
namespace Py.k04
open PySem PySem.Spec L2
noncomputable def tl28_11 (G : Nat → List PV → Store → Res PV) : Dns := (dSeq (dRet (dAnd (dOp2 gEq (dCall (G 26) (dCons (dK (.int 1)) (dCons (dVar 2) (dCons (dVar 9) dNil)))) (dK (.str (PySem.Str.ofString "market")))) (dAnd (dOp2 gEq (dCall (G 26) (dCons (dK (.int 2)) (dCons (dVar 2) (dCons (dTup (dCons (dK (.int 7)) dNil)) dNil)))) (dK (.str (PySem.Str.ofString "moment")))) (dOp2 gEq (dCall (G 26) (dCons (dK (.int 1)) (dCons (dVar 2) (dCons (dTW (dRng1 (dOp2 gIx (dBor 2) (dK (.int 0))))) dNil)))) (dBor 2))))) dSkip)
theorem tlE28_11 (G : Nat → List PV → Store → Res PV) : tl28_11 G = (dSeq (dRet (dAnd (dOp2 gEq (dCall (G 26) (dCons (dK (.int 1)) (dCons (dVar 2) (dCons (dVar 9) dNil)))) (dK (.str (PySem.Str.ofString "market")))) (dAnd (dOp2 gEq (dCall (G 26) (dCons (dK (.int 2)) (dCons (dVar 2) (dCons (dTup (dCons (dK (.int 7)) dNil)) dNil)))) (dK (.str (PySem.Str.ofString "moment")))) (dOp2 gEq (dCall (G 26) (dCons (dK (.int 1)) (dCons (dVar 2) (dCons (dTW (dRng1 (dOp2 gIx (dBor 2) (dK (.int 0))))) dNil)))) (dBor 2))))) dSkip) := rfl
noncomputable def tl28_10 (G : Nat → List PV → Store → Res PV) : Dns := (dSeq (dAsg 9 (dOp2 gIx (dTup (dCons (dOp2 gAdd (dTup (dCons (dK (.int 1)) dNil)) (dSl gSl (dBor 4) (dPart (dK (.int 1))) dNoPart)) (dCons (dOp2 gAdd (dBor 4) (dTup (dCons (dK (.int 0)) dNil))) (dCons (dSl gSl (dBor 4) dNoPart (dPart (dNeg (dK (.int 1))))) dNil)))) (dCall (G 14) (dCons (dVar 1) (dCons (dK (.int 3)) dNil))))) (tl28_11 G))
theorem tlE28_10 (G : Nat → List PV → Store → Res PV) : tl28_10 G = (dSeq (dAsg 9 (dOp2 gIx (dTup (dCons (dOp2 gAdd (dTup (dCons (dK (.int 1)) dNil)) (dSl gSl (dBor 4) (dPart (dK (.int 1))) dNoPart)) (dCons (dOp2 gAdd (dBor 4) (dTup (dCons (dK (.int 0)) dNil))) (dCons (dSl gSl (dBor 4) dNoPart (dPart (dNeg (dK (.int 1))))) dNil)))) (dCall (G 14) (dCons (dVar 1) (dCons (dK (.int 3)) dNil))))) (tl28_11 G)) := rfl
noncomputable def tl28_9 (G : Nat → List PV → Store → Res PV) : Dns := (dSeq (dIfS (dOr (dOp2 gNe (dOp2 gIx (dBor 5) (dK (.int 0))) (dOp2 gIx (dBor 2) (dK (.int 0)))) (dOr (dOp2 gNe (dOp2 gIx (dBor 6) (dK (.int 0))) (dOp2 gIx (dBor 2) (dK (.int 0)))) (dOr (dOp2 gNe (dCall (G 26) (dCons (dK (.int 0)) (dCons (dVar 2) (dCons (dTup (dCons (dK (.int 1)) (dCons (dK (.int 1)) dNil))) dNil)))) (dBor 2)) (dOp2 gNe (dCall (G 26) (dCons (dK (.int 0)) (dCons (dVar 2) (dCons (dTup (dCons (dK (.int 8)) (dCons (dK (.int 9)) dNil))) dNil)))) (dK (.str (PySem.Str.ofString "market"))))))) (dSeq (dRet (dK (.bl false))) dSkip) dSkip) (tl28_10 G))
theorem tlE28_9 (G : Nat → List PV → Store → Res PV) : tl28_9 G = (dSeq (dIfS (dOr (dOp2 gNe (dOp2 gIx (dBor 5) (dK (.int 0))) (dOp2 gIx (dBor 2) (dK (.int 0)))) (dOr (dOp2 gNe (dOp2 gIx (dBor 6) (dK (.int 0))) (dOp2 gIx (dBor 2) (dK (.int 0)))) (dOr (dOp2 gNe (dCall (G 26) (dCons (dK (.int 0)) (dCons (dVar 2) (dCons (dTup (dCons (dK (.int 1)) (dCons (dK (.int 1)) dNil))) dNil)))) (dBor 2)) (dOp2 gNe (dCall (G 26) (dCons (dK (.int 0)) (dCons (dVar 2) (dCons (dTup (dCons (dK (.int 8)) (dCons (dK (.int 9)) dNil))) dNil)))) (dK (.str (PySem.Str.ofString "market"))))))) (dSeq (dRet (dK (.bl false))) dSkip) dSkip) (tl28_10 G)) := rfl
noncomputable def tl28_8 (G : Nat → List PV → Store → Res PV) : Dns := (dSeq (dFor (dSeqI (dVar 7)) (tN 8) (dSeq (dAsg 10 (dCall (G 25) (dCons (dVar 2) (dCons (dVar 8) dNil)))) (dSeq (dAsg 11 (dLc (dRng2 (dK (.int 1)) (dOp2 gIx (dBor 2) (dK (.int 0)))) (tN 13) dTrue (dTup (dCons (dCall (G 19) (dCons (dOp2 gIx (dOp2 gIx (dBor 10) (dBor 13)) (dK (.int 0))) (dCons (dVar 3) dNil))) (dCons (dCall (G 16) (dCons (dOp2 gMul (dOp2 gIx (dOp2 gIx (dOp2 gIx (dBor 10) (dBor 13)) (dK (.int 1))) (dK (.int 0))) (dOp2 gIx (dBor 3) (dK (.int 1)))) (dCons (dOp2 gMul (dOp2 gIx (dOp2 gIx (dOp2 gIx (dBor 10) (dBor 13)) (dK (.int 1))) (dK (.int 1))) (dOp2 gIx (dBor 3) (dK (.int 0)))) dNil))) dNil))) [13])) (dSeq (dIfS (dOr (dOp2 gNe (dOp2 gIx (dCall (G 24) (dCons (dVar 5) (dCons (dVar 8) dNil))) (dK (.int 0))) (dOp1 gTuple (dBor 11))) (dOp2 gNe (dCall (G 25) (dCons (dVar 6) (dCons (dVar 8) dNil))) (dOp1 gTuple (dLc (dSeqI (dVar 4)) (tN 13) dTrue (dOp2 gIx (dBor 10) (dBor 13)) [13])))) (dSeq (dRet (dK (.bl false))) dSkip) dSkip) (dSeq (dIfS (dOp2 gNe (dCall (G 26) (dCons (dK (.int 2)) (dCons (dVar 2) (dCons (dVar 8) dNil)))) (dTup (dCons (dOp2 gIx (dBor 2) (dK (.int 0))) (dCons (dCall (G 24) (dCons (dVar 2) (dCons (dVar 8) dNil))) dNil)))) (dSeq (dRet (dK (.bl false))) dSkip) dSkip) dSkip))))) (tl28_9 G))
theorem tlE28_8 (G : Nat → List PV → Store → Res PV) : tl28_8 G = (dSeq (dFor (dSeqI (dVar 7)) (tN 8) (dSeq (dAsg 10 (dCall (G 25) (dCons (dVar 2) (dCons (dVar 8) dNil)))) (dSeq (dAsg 11 (dLc (dRng2 (dK (.int 1)) (dOp2 gIx (dBor 2) (dK (.int 0)))) (tN 13) dTrue (dTup (dCons (dCall (G 19) (dCons (dOp2 gIx (dOp2 gIx (dBor 10) (dBor 13)) (dK (.int 0))) (dCons (dVar 3) dNil))) (dCons (dCall (G 16) (dCons (dOp2 gMul (dOp2 gIx (dOp2 gIx (dOp2 gIx (dBor 10) (dBor 13)) (dK (.int 1))) (dK (.int 0))) (dOp2 gIx (dBor 3) (dK (.int 1)))) (dCons (dOp2 gMul (dOp2 gIx (dOp2 gIx (dOp2 gIx (dBor 10) (dBor 13)) (dK (.int 1))) (dK (.int 1))) (dOp2 gIx (dBor 3) (dK (.int 0)))) dNil))) dNil))) [13])) (dSeq (dIfS (dOr (dOp2 gNe (dOp2 gIx (dCall (G 24) (dCons (dVar 5) (dCons (dVar 8) dNil))) (dK (.int 0))) (dOp1 gTuple (dBor 11))) (dOp2 gNe (dCall (G 25) (dCons (dVar 6) (dCons (dVar 8) dNil))) (dOp1 gTuple (dLc (dSeqI (dVar 4)) (tN 13) dTrue (dOp2 gIx (dBor 10) (dBor 13)) [13])))) (dSeq (dRet (dK (.bl false))) dSkip) dSkip) (dSeq (dIfS (dOp2 gNe (dCall (G 26) (dCons (dK (.int 2)) (dCons (dVar 2) (dCons (dVar 8) dNil)))) (dTup (dCons (dOp2 gIx (dBor 2) (dK (.int 0))) (dCons (dCall (G 24) (dCons (dVar 2) (dCons (dVar 8) dNil))) dNil)))) (dSeq (dRet (dK (.bl false))) dSkip) dSkip) dSkip))))) (tl28_9 G)) := rfl
noncomputable def tl28_7 (G : Nat → List PV → Store → Res PV) : Dns := (dSeq (dIfS (dOr (dOp2 gNe (dLc (dSeqI (dCall (G 23) (dCons (dVar 5) dNil))) (tT [8, 12]) dTrue (dVar 8) [8, 12]) (dBor 7)) (dOp2 gNe (dLc (dSeqI (dCall (G 23) (dCons (dVar 6) dNil))) (tT [8, 12]) dTrue (dVar 8) [8, 12]) (dBor 7))) (dSeq (dRet (dK (.bl false))) dSkip) dSkip) (tl28_8 G))
theorem tlE28_7 (G : Nat → List PV → Store → Res PV) : tl28_7 G = (dSeq (dIfS (dOr (dOp2 gNe (dLc (dSeqI (dCall (G 23) (dCons (dVar 5) dNil))) (tT [8, 12]) dTrue (dVar 8) [8, 12]) (dBor 7)) (dOp2 gNe (dLc (dSeqI (dCall (G 23) (dCons (dVar 6) dNil))) (tT [8, 12]) dTrue (dVar 8) [8, 12]) (dBor 7))) (dSeq (dRet (dK (.bl false))) dSkip) dSkip) (tl28_8 G)) := rfl
theorem tlE28 (G : Nat → List PV → Store → Res PV) : b28 G = (dSeq (dAsg 1 (dCall (G 13) (dCons (dVar 0) dNil))) ((dSeq (dAsg 2 (dCall (G 22) (dCons (dVar 1) (dCons (dK (.int 4)) dNil)))) ((dSeq (dAsg 3 (dCall (G 16) (dCons (dOp2 gAdd (dK (.int 2)) (dCall (G 14) (dCons (dVar 1) (dCons (dK (.int 5)) dNil)))) (dCons (dOp2 gAdd (dK (.int 1)) (dCall (G 14) (dCons (dVar 1) (dCons (dK (.int 2)) dNil)))) dNil)))) ((dSeq (dAsg 4 (dCall (G 27) (dCons (dVar 1) (dCons (dOp2 gIx (dBor 2) (dK (.int 0))) dNil)))) ((dSeq (dAsg 5 (dCall (G 26) (dCons (dK (.int 0)) (dCons (dVar 2) (dCons (dVar 3) dNil))))) ((dSeq (dAsg 6 (dCall (G 26) (dCons (dK (.int 1)) (dCons (dVar 2) (dCons (dVar 4) dNil))))) ((dSeq (dAsg 7 (dLc (dSeqI (dCall (G 23) (dCons (dVar 2) dNil))) (tT [8, 12]) dTrue (dVar 8) [8, 12])) (tl28_7 G)))))))))))))) := rfl
end Py.k04
/-! The plain law: markets from markets, its end. -/
namespace Py.k04
open PySem PySem.Spec L2
/-! ### plain data -/
theorem shps_of {l : List PV} (h : ∀ x ∈ l, shp x = true) : shps l = true := by
  induction l with
  | nil => rfl
  | cons a l ih => show (shp a && shps l) = true; rw [h a List.mem_cons_self, ih fun x hx => h x (List.mem_cons_of_mem _ hx)]; rfl
theorem deps_of {l : List PV} {k : Nat} (h : ∀ x ∈ l, dep x ≤ k) : deps l ≤ k := by
  induction l with
  | nil => exact Nat.zero_le _
  | cons a l ih =>
    have := h a List.mem_cons_self
    have := ih fun x hx => h x (List.mem_cons_of_mem _ hx)
    show max (dep a) (deps l) ≤ k; omega
theorem shp_pps (ps : List PP) : shps (ps.map ppv) = true := shps_of fun x hx => by obtain ⟨p, _, rfl⟩ := List.mem_map.mp hx; rfl
theorem dep_pps (ps : List PP) : deps (ps.map ppv) ≤ 2 := deps_of fun x hx => by
  obtain ⟨p, _, rfl⟩ := List.mem_map.mp hx
  show max (max 0 (max 0 0) + 1) (max (max 0 (max 0 0) + 1) 0) + 1 ≤ 2; decide
theorem shp_nd {g : Nat} : ∀ {h : Nat} {n : Nd}, Tree g h n → shp n.pv = true ∧ dep n.pv ≤ 2 * h + 4
  | 0, n, t => by
    rw [Nd.pv_eq, show n.ks = [] from t.2]
    have := dep_pps n.ps
    refine ⟨?_, ?_⟩
    · show (shps (n.ps.map ppv) && true) = true; rw [shp_pps]; rfl
    · show max (deps (n.ps.map ppv) + 1) (max (0 + 1) 0) + 1 ≤ 4; omega
  | h + 1, n, t => by
    rw [Nd.pv_eq]
    have := dep_pps n.ps
    have h1 : shps (n.ks.map Nd.pv) = true := shps_of fun x hx => by
      obtain ⟨m, hm, rfl⟩ := List.mem_map.mp hx
      exact (shp_nd (t.2.2.2 m hm)).1
    have h2 : deps (n.ks.map Nd.pv) ≤ 2 * h + 4 := deps_of fun x hx => by
      obtain ⟨m, hm, rfl⟩ := List.mem_map.mp hx
      exact (shp_nd (t.2.2.2 m hm)).2
    refine ⟨?_, ?_⟩
    · show (shps (n.ps.map ppv) && (shps (n.ks.map Nd.pv) && true)) = true; rw [shp_pps, h1]; rfl
    · show max (deps (n.ps.map ppv) + 1) (max (deps (n.ks.map Nd.pv) + 1) 0) + 1 ≤ _; omega
section
variable {S : Store}
theorem mkt_shp {g h : Nat} {n : Nd} {k : Int} (t : Tree g h n) (hh : h ≤ 2) : shp (mkt k n) = true ∧ dep (mkt k n) ≤ 64 := by
  obtain ⟨h1, h2⟩ := shp_nd t
  refine ⟨?_, ?_⟩
  · show (true && (shp n.pv && true)) = true; rw [h1]; rfl
  · show max 0 (max (dep n.pv) 0) + 1 ≤ 64; omega
theorem ne_pps (l : List PP) : lift2 gNe (.tup (l.map ppv)) (.tup (l.map ppv)) S = .ok (.bl false) S := ne_self (shp_pps l) (by have := dep_pps l; show deps _ + 1 ≤ 64; omega)
theorem ne_pasL (l : List Path) : lift2 gNe (.lst (l.map pav)) (.lst (l.map pav)) S = .ok (.bl false) S := ne_self (shps_pas l) (by have := deps_pas l; show deps _ + 1 ≤ 64; omega)
end
theorem range_getD {α β : Type} (F : α → β) (o d : α) (ps : List α) : (List.range' 1 ps.length).map (fun j => F ((o :: ps).getD j d)) = ps.map F := by
  refine List.ext_getElem (by rw [List.length_map, List.length_range', List.length_map]) fun i h1 h2 => ?_
  rw [List.length_map] at h2
  rw [List.getElem_map, List.getElem_map, List.getElem_range', Nat.one_mul, Nat.add_comm]
  rw [List.getD_cons_succ, List.getD_eq_getElem?_getD, List.getElem?_eq_getElem h2]; rfl
theorem getD_pred {α : Type} {o d : α} {ps : List α} {k : Nat} (h : 1 ≤ k) : (o :: ps).getD k d = ps.getD (k - 1) d := by
  obtain ⟨j, rfl⟩ : ∃ j, k = j + 1 := ⟨k - 1, by omega⟩
  rw [List.getD_cons_succ, Nat.add_sub_cancel]
theorem cut_m1 {xs : List PV} : cutP xs none (some (-1)) = xs.dropLast := by
  unfold cutP
  rw [HT.sIx_none, List.dropLast_eq_take]
  show (xs.drop 0).take ((if (-1 : Int) < 0 then ((-1 : Int) + (xs.length : Int)).toNat else min (-1 : Int).toNat xs.length) - 0) = _
  rw [if_pos (by decide), List.drop_zero]
  congr 1
  omega
structure Ask (G : Nat → List PV → Store → Res PV) : Prop where
  beg : ∀ ns : List Int, ∃ s, G 13 [.scr ns] [] = .ok (.ref 0) [.lst (dst ns 0 0 s)] ∧ 0 ≤ s ∧ s < 2147483647
  take : TakeOk (G 14)
  f : FFrac (G 16)
  mul : FMul (G 19)
  mar : LMarketOk (G 22)
  nod : LNodesOk (G 23)
  find : FindOk (G 24)
  pri : LPricesOk (G 25)
  told : ToldOk (G 26)
  ord : OrdOk (G 27)
theorem red_same {p q : Int} {a : Fr} (ha : 0 < a.d) (hr : a.red) (hq : 0 < q) (h : p * a.d = a.n * q) : fmk p q = a := by
  have h0 : q ≠ 0 := by omega
  refine Fr.red_eq (fmk_red h0) hr (frD_pos h0) ha ?_
  have c := fmk_cross (p := p) h0
  have c : (fmk p q).n * q = p * (fmk p q).d := c
  refine Int.eq_of_mul_eq_mul_right h0 ?_
  calc (fmk p q).n * a.d * q = (fmk p q).n * q * a.d := by rw [Int.mul_assoc, Int.mul_comm a.d q, ← Int.mul_assoc]
    _ = p * (fmk p q).d * a.d := by rw [c]
    _ = p * a.d * (fmk p q).d := by rw [Int.mul_assoc, Int.mul_comm (fmk p q).d a.d, ← Int.mul_assoc]
    _ = a.n * q * (fmk p q).d := by rw [h]
    _ = a.n * (fmk p q).d * q := by rw [Int.mul_assoc, Int.mul_comm q, ← Int.mul_assoc]
theorem wide_one {g : Nat} (ps : List PP) (h : PsOk g ps) : wideP Fr.one ps = ps := by
  unfold wideP
  have : ps.map (fun p => (p.1.mul Fr.one, p.2.div Fr.one)) = ps.map id := List.map_congr_left fun p hp => by
    have q := h.good p hp
    have e1 : p.1.mul Fr.one = p.1 := red_same q.bd.1.pos q.red.1 (by show 0 < p.1.d * 1; have := q.bd.1.pos; omega) (by show p.1.n * 1 * p.1.d = p.1.n * (p.1.d * 1); rw [Int.mul_one, Int.mul_one])
    have e2 : p.2.div Fr.one = p.2 := red_same q.bd.2.pos q.red.2 (by show 0 < p.2.d * 1; have := q.bd.2.pos; omega) (by show p.2.n * 1 * p.2.d = p.2.n * (p.2.d * 1); rw [Int.mul_one, Int.mul_one])
    rw [e1, e2]; rfl
  rw [this, List.map_id]
theorem turn_id {g : Nat} (ps : List PP) (h : PsOk g ps) : turnP (List.range' 1 (g - 1)) ps = ps := by
  have hl := h.len
  unfold turnP
  rw [show g - 1 = ps.length by omega]
  have := range_getD (fun p : PP => p) (Fr.zero, Fr.zero) (Fr.zero, Fr.zero) ps
  rw [List.map_id''] at this
  · rw [← this]
    rw [this]
    refine Eq.trans (List.map_congr_left fun k hk => ?_) this
    have := (List.mem_range'_1.mp hk).1
    rw [getD_pred this]
  · intro x; rfl
theorem law_ok {G : Nat → List PV → Store → Res PV} (A : Ask G) (ns : List Int) : ∃ S, dDef 14 1 (b28 G) [.scr ns] [] = .ok (.bl true) S := by
  suffices h : Sat (dDef 14 1 (b28 G) [.scr ns] []) (fun v _ => v = .bl true) noE by
    obtain ⟨v, S, e, h⟩ := h.ex
    exact ⟨S, by rw [e, h]⟩
  obtain ⟨s, e0, hs⟩ := A.beg ns
  have d0 := begin_dr (ns := ns) hs
  rw [def1, tlE28]
  simp -implicitDefEqProofs only [EVc, Nat.reduceSub, Int.reduceLT, Int.reduceLE, Int.reduceEq, Int.reduceSub, Int.reduceAdd, Int.reduceMul, Int.reduceNeg, List.replicate, wipeE, List.replicate_zero, List.getElem?_cons_zero, List.getElem?_cons_succ, List.set_cons_succ, List.set_cons_zero, Option.map_some, if_true, if_false]
  rw [e0]
  simp -implicitDefEqProofs only [EVc, Nat.reduceSub, Int.reduceLT, Int.reduceLE, Int.reduceEq, Int.reduceSub, Int.reduceAdd, Int.reduceMul, Int.reduceNeg, List.replicate, wipeE, List.replicate_zero, List.getElem?_cons_zero, List.getElem?_cons_succ, List.set_cons_succ, List.set_cons_zero, Option.map_some, if_true, if_false]
  refine (A.mar [] _ 4 d0 (by decide) (by decide)).to ?_
  intro v S1 hA
  obtain ⟨g, h, n, hv, M, _, d1⟩ := hA
  subst hv
  have hok := M.ok
  have hck := M.chk
  have g1 := M.g1
  have g4 := M.g4
  obtain ⟨r, S2, e2, r0, r5, d2⟩ := A.take [] S1 5 d1 (by decide) (by decide +kernel)
  obtain ⟨q, S3, e3, q0, q2, d3⟩ := A.take [] S2 2 d2 (by decide) (by decide +kernel)
  simp -implicitDefEqProofs only [EVc, Nat.reduceSub, Int.reduceLT, Int.reduceLE, Int.reduceEq, Int.reduceSub, Int.reduceAdd, Int.reduceMul, Int.reduceNeg, List.replicate, wipeE, List.replicate_zero, List.getElem?_cons_zero, List.getElem?_cons_succ, List.set_cons_succ, List.set_cons_zero, Option.map_some, if_true, if_false]
  rw [e2]
  simp -implicitDefEqProofs only [EVc, Nat.reduceSub, Int.reduceLT, Int.reduceLE, Int.reduceEq, Int.reduceSub, Int.reduceAdd, Int.reduceMul, Int.reduceNeg, List.replicate, wipeE, List.replicate_zero, List.getElem?_cons_zero, List.getElem?_cons_succ, List.set_cons_succ, List.set_cons_zero, Option.map_some, if_true, if_false]
  rw [e3]
  simp -implicitDefEqProofs only [EVc, Nat.reduceSub, Int.reduceLT, Int.reduceLE, Int.reduceEq, Int.reduceSub, Int.reduceAdd, Int.reduceMul, Int.reduceNeg, List.replicate, wipeE, List.replicate_zero, List.getElem?_cons_zero, List.getElem?_cons_succ, List.set_cons_succ, List.set_cons_zero, Option.map_some, if_true, if_false]
  have hq : 1 + q ≠ 0 := by omega
  have lq : lt2 (1 + q) 8000 := lt2.mono (n := 2) (by unfold lt2; omega) (by decide)
  rw [A.f _ _ _ hq lq]
  have fb : (fmk (2 + r) (1 + q)).bd 10 := fmk_bd hq (by unfold lt2; omega) (by unfold lt2; omega)
  have fle : Fr.one.le (fmk (2 + r) (1 + q)) := (le_fmk (by omega)).mpr (by show 1 * (1 + q) ≤ (2 + r) * 1; omega)
  generalize fmk (2 + r) (1 + q) = fa at *
  have fle : 1 * fa.d ≤ fa.n * 1 := fle
  have fp := fb.pos
  have fn : 0 < fa.n := by omega
  have flt : fa.lt Fr.one = false := by unfold Fr.lt; exact decide_eq_false (by show ¬ fa.n * 1 < 1 * fa.d; omega)
  simp -implicitDefEqProofs only [EVc, Nat.reduceSub, Int.reduceLT, Int.reduceLE, Int.reduceEq, Int.reduceSub, Int.reduceAdd, Int.reduceMul, Int.reduceNeg, List.replicate, wipeE, List.replicate_zero, List.getElem?_cons_zero, List.getElem?_cons_succ, List.set_cons_succ, List.set_cons_zero, Option.map_some, if_true, if_false]
  refine (A.ord [] S3 g d3 g1 g4).to ?_
  intro v S4 hB
  obtain ⟨rr, hv, hp, d4⟩ := hB
  subst hv
  try simp -implicitDefEqProofs only [EVc, Nat.reduceSub, Int.reduceLT, Int.reduceLE, Int.reduceEq, Int.reduceSub, Int.reduceAdd, Int.reduceMul, Int.reduceNeg, List.replicate, wipeE, List.replicate_zero, List.getElem?_cons_zero, List.getElem?_cons_succ, List.set_cons_succ, List.set_cons_zero, Option.map_some, if_true, if_false]
  have rl : rr.length + 1 = g := by have := hp.length_eq; rw [List.length_range, List.length_cons] at this; exact this
  have rk : ∀ k ∈ rr, 1 ≤ k ∧ k < g := fun k hk => ⟨by
    rcases Nat.eq_zero_or_pos k with rfl | h
    · exact absurd hk (List.nodup_cons.mp (hp.nodup_iff.mpr List.nodup_range)).1
    · exact h, List.mem_range.mp (hp.mem_iff.mp (List.mem_cons_of_mem _ hk))⟩
  try simp -implicitDefEqProofs only [EVc, Nat.reduceSub, Int.reduceLT, Int.reduceLE, Int.reduceEq, Int.reduceSub, Int.reduceAdd, Int.reduceMul, Int.reduceNeg, List.replicate, wipeE, List.replicate_zero, List.getElem?_cons_zero, List.getElem?_cons_succ, List.set_cons_succ, List.set_cons_zero, Option.map_some, if_true, if_false]
  have ew := A.told.w g h n fa S4 M fb fn
  rw [if_neg (by rw [flt]; exact Bool.noConfusion)] at ew
  rw [ew]
  simp -implicitDefEqProofs only [EVc, Nat.reduceSub, Int.reduceLT, Int.reduceLE, Int.reduceEq, Int.reduceSub, Int.reduceAdd, Int.reduceMul, Int.reduceNeg, List.replicate, wipeE, List.replicate_zero, List.getElem?_cons_zero, List.getElem?_cons_succ, List.set_cons_succ, List.set_cons_zero, Option.map_some, if_true, if_false]
  rw [A.told.t3 g h n (0 :: rr) S4 M (by rw [List.length_cons]; omega) rr rfl hp]
  simp -implicitDefEqProofs only [EVc, Nat.reduceSub, Int.reduceLT, Int.reduceLE, Int.reduceEq, Int.reduceSub, Int.reduceAdd, Int.reduceMul, Int.reduceNeg, List.replicate, wipeE, List.replicate_zero, List.getElem?_cons_zero, List.getElem?_cons_succ, List.set_cons_succ, List.set_cons_zero, Option.map_some, if_true, if_false]
  rw [A.nod n (g : Int) S4 hok]
  simp -implicitDefEqProofs only [EVc, Nat.reduceSub, Int.reduceLT, Int.reduceLE, Int.reduceEq, Int.reduceSub, Int.reduceAdd, Int.reduceMul, Int.reduceNeg, List.replicate, wipeE, List.replicate_zero, List.getElem?_cons_zero, List.getElem?_cons_succ, List.set_cons_succ, List.set_cons_zero, Option.map_some, if_true, if_false]
  rw [comp_map itm (fun x => pav x.1) (pre [] n) (fun x _ => ⟨_, rfl, by simp -implicitDefEqProofs only [EVc, Nat.reduceSub, Int.reduceLT, Int.reduceLE, Int.reduceEq, Int.reduceSub, Int.reduceAdd, Int.reduceMul, Int.reduceNeg, List.replicate, wipeE, List.replicate_zero, List.getElem?_cons_zero, List.getElem?_cons_succ, List.set_cons_succ, List.set_cons_zero, Option.map_some, if_true, if_false]⟩)]
  simp -implicitDefEqProofs only [EVc, Nat.reduceSub, Int.reduceLT, Int.reduceLE, Int.reduceEq, Int.reduceSub, Int.reduceAdd, Int.reduceMul, Int.reduceNeg, List.replicate, wipeE, List.replicate_zero, List.getElem?_cons_zero, List.getElem?_cons_succ, List.set_cons_succ, List.set_cons_zero, Option.map_some, if_true, if_false]
  have tr : ∀ x ∈ pre [] n, ∃ h', Tree g h' x.2 := fun x hx => by
    obtain ⟨h', _, ht, _⟩ := tree_pre [] M.tree x hx
    exact ⟨h', ht⟩
  have ok1 : (n.mapP (wideP fa)).Ok := mapP_ok hok fun x hx => by
    obtain ⟨h', ht⟩ := tr x hx
    refine ⟨fun p hp => ?_, by unfold wideP; rw [List.length_map]; have := ht.ps.len; omega⟩
    obtain ⟨y, hy, rfl⟩ := List.mem_map.mp hp
    have := (ht.ps.good y hy).bd
    exact ⟨(this.1.mul fb).mono (by decide), (this.2.div fb (by omega)).mono (by decide)⟩
  have ok2 : (n.mapP (turnP rr)).Ok := mapP_ok hok fun x hx => by
    obtain ⟨h', ht⟩ := tr x hx
    refine ⟨fun p hp => ?_, by unfold turnP; rw [List.length_map]; omega⟩
    obtain ⟨k, hk, rfl⟩ := List.mem_map.mp hp
    have := rk k hk
    have hl := ht.ps.len
    have := getD_bdP (l := x.2.ps) (k := k - 1) (j := 200) (fun p hp => (ht.ps.good p hp).bd) (by omega)
    exact ⟨this.1.mono (by decide), this.2.mono (by decide)⟩
  have same : ∀ φ : List PP → List PP, ((pre [] (n.mapP φ)).map fun x => pav x.1) = (pre [] n).map fun x => pav x.1 := fun φ => by rw [pre_mapP, List.map_map]; rfl
  have nepaths : ∀ S, lift2 gNe (.lst ((pre [] n).map fun x => pav x.1)) (.lst ((pre [] n).map fun x => pav x.1)) S = .ok (.bl false) S := fun S => by
    have := ne_pasL (S := S) ((pre [] n).map (·.1))
    rw [List.map_map] at this; exact this
  rw [tlE28_7]
  simp -implicitDefEqProofs only [EVc, Nat.reduceSub, Int.reduceLT, Int.reduceLE, Int.reduceEq, Int.reduceSub, Int.reduceAdd, Int.reduceMul, Int.reduceNeg, List.replicate, wipeE, List.replicate_zero, List.getElem?_cons_zero, List.getElem?_cons_succ, List.set_cons_succ, List.set_cons_zero, Option.map_some, if_true, if_false]
  rw [A.nod _ (g : Int) S4 ok1]
  simp -implicitDefEqProofs only [EVc, Nat.reduceSub, Int.reduceLT, Int.reduceLE, Int.reduceEq, Int.reduceSub, Int.reduceAdd, Int.reduceMul, Int.reduceNeg, List.replicate, wipeE, List.replicate_zero, List.getElem?_cons_zero, List.getElem?_cons_succ, List.set_cons_succ, List.set_cons_zero, Option.map_some, if_true, if_false]
  rw [comp_map itm (fun x => pav x.1) (pre [] (n.mapP (wideP fa))) (fun x _ => ⟨_, rfl, by simp -implicitDefEqProofs only [EVc, Nat.reduceSub, Int.reduceLT, Int.reduceLE, Int.reduceEq, Int.reduceSub, Int.reduceAdd, Int.reduceMul, Int.reduceNeg, List.replicate, wipeE, List.replicate_zero, List.getElem?_cons_zero, List.getElem?_cons_succ, List.set_cons_succ, List.set_cons_zero, Option.map_some, if_true, if_false]⟩), same]
  simp -implicitDefEqProofs only [EVc, Nat.reduceSub, Int.reduceLT, Int.reduceLE, Int.reduceEq, Int.reduceSub, Int.reduceAdd, Int.reduceMul, Int.reduceNeg, List.replicate, wipeE, List.replicate_zero, List.getElem?_cons_zero, List.getElem?_cons_succ, List.set_cons_succ, List.set_cons_zero, Option.map_some, if_true, if_false, nepaths]
  rw [A.nod _ (g : Int) S4 ok2]
  simp -implicitDefEqProofs only [EVc, Nat.reduceSub, Int.reduceLT, Int.reduceLE, Int.reduceEq, Int.reduceSub, Int.reduceAdd, Int.reduceMul, Int.reduceNeg, List.replicate, wipeE, List.replicate_zero, List.getElem?_cons_zero, List.getElem?_cons_succ, List.set_cons_succ, List.set_cons_zero, Option.map_some, if_true, if_false]
  rw [comp_map itm (fun x => pav x.1) (pre [] (n.mapP (turnP rr))) (fun x _ => ⟨_, rfl, by simp -implicitDefEqProofs only [EVc, Nat.reduceSub, Int.reduceLT, Int.reduceLE, Int.reduceEq, Int.reduceSub, Int.reduceAdd, Int.reduceMul, Int.reduceNeg, List.replicate, wipeE, List.replicate_zero, List.getElem?_cons_zero, List.getElem?_cons_succ, List.set_cons_succ, List.set_cons_zero, Option.map_some, if_true, if_false]⟩), same]
  simp -implicitDefEqProofs only [EVc, Nat.reduceSub, Int.reduceLT, Int.reduceLE, Int.reduceEq, Int.reduceSub, Int.reduceAdd, Int.reduceMul, Int.reduceNeg, List.replicate, wipeE, List.replicate_zero, List.getElem?_cons_zero, List.getElem?_cons_succ, List.set_cons_succ, List.set_cons_zero, Option.map_some, if_true, if_false, nepaths]
  rw [tlE28_8]
  simp -implicitDefEqProofs only [EVc, Nat.reduceSub, Int.reduceLT, Int.reduceLE, Int.reduceEq, Int.reduceSub, Int.reduceAdd, Int.reduceMul, Int.reduceNeg, List.replicate, wipeE, List.replicate_zero, List.getElem?_cons_zero, List.getElem?_cons_succ, List.set_cons_succ, List.set_cons_zero, Option.map_some, if_true, if_false]
  refine SatF_for (fun (x : Path × Nd) => pav x.1) (fun dn l ρ S => dn ++ l = pre [] n ∧ S4 = S ∧ ∃ c8 c10 c11, ρ = [.fz (.scr ns), .fz (.ref 0), .fz (mkt (g : Int) n), .fz fa.pv, .fz (ord (0 :: rr)), .fz (mkt (g : Int) (n.mapP (wideP fa))), .fz (mkt (g : Int) (n.mapP (turnP rr))), .fz (.lst ((pre [] n).map fun x => pav x.1)), c8, .un, c10, c11, .un, .un]) (pre [] n) [] _ _ ⟨rfl, rfl, .un, .un, .un, rfl⟩ ?_ ?_
  · rintro dn x l ρ S ⟨hd, hS, c8, c10, c11, rfl⟩
    subst hS
    refine ⟨_, rfl, ?_⟩
    have hxm : x ∈ pre [] n := by rw [← hd]; simp
    obtain ⟨q, hq1, hq2⟩ := pre_find [] n x hxm
    rw [List.nil_append] at hq1
    rw [← hq1] at hq2
    obtain ⟨h', ht⟩ := tr x hxm
    have hl := ht.ps.len
    simp -implicitDefEqProofs only [EVc, Nat.reduceSub, Int.reduceLT, Int.reduceLE, Int.reduceEq, Int.reduceSub, Int.reduceAdd, Int.reduceMul, Int.reduceNeg, List.replicate, wipeE, List.replicate_zero, List.getElem?_cons_zero, List.getElem?_cons_succ, List.set_cons_succ, List.set_cons_zero, Option.map_some, if_true, if_false]
    rw [A.pri n x.2 _ x.1 S4 hok hq2]
    simp -implicitDefEqProofs only [EVc, Nat.reduceSub, Int.reduceLT, Int.reduceLE, Int.reduceEq, Int.reduceSub, Int.reduceAdd, Int.reduceMul, Int.reduceNeg, List.replicate, wipeE, List.replicate_zero, List.getElem?_cons_zero, List.getElem?_cons_succ, List.set_cons_succ, List.set_cons_zero, Option.map_some, if_true, if_false]
    have zd : ∀ j, 1 ≤ j → j < g → j < x.2.prices.length := fun j h1 h2 => by show j < x.2.ps.length + 1; omega
    have pb : ∀ j, 1 ≤ j → j < g → bdP 3000 (x.2.prices.getD j (Fr.zero, Fr.zero)) := fun j h1 h2 => getD_bdP (l := x.2.prices) (k := j) (j := 3000) (fun p hp => by
      have := (ps_PsG ht.ps).2 p hp
      exact ⟨this.1.1.mono (by decide), this.1.2.mono (by decide)⟩) (zd j h1 h2)
    rw [rng2F_e (i := 1) (j := (g : Int)) (a := 1) (b := g) rfl rfl g1 (Nat.lt_of_le_of_lt g4 (by decide))]
    simp -implicitDefEqProofs only [EVc, Nat.reduceSub, Int.reduceLT, Int.reduceLE, Int.reduceEq, Int.reduceSub, Int.reduceAdd, Int.reduceMul, Int.reduceNeg, List.replicate, wipeE, List.replicate_zero, List.getElem?_cons_zero, List.getElem?_cons_succ, List.set_cons_succ, List.set_cons_zero, Option.map_some, if_true, if_false]
    have fa3 : fa.bd 3000 := fb.mono (by decide)
    have fdi : (PV.tup [.int fa.n, .int fa.d]) = fa.pv := rfl
    rw [comp_map (fun (j : Nat) => PV.int j) (fun j => ppv ((x.2.prices.getD j (Fr.zero, Fr.zero)).1.mul fa, (x.2.prices.getD j (Fr.zero, Fr.zero)).2.div fa)) (List.range' 1 (g - 1)) (fun j hj => ⟨_, rfl, by
      have hj := List.mem_range'_1.mp hj
      have b1 := pb j hj.1 (by omega)
      have ix : lift2 gIx (.tup (x.2.prices.map ppv)) (.int (j : Int)) S4 = .ok (ppv (x.2.prices.getD j (Fr.zero, Fr.zero))) S4 := ixT (mapDP (zd j hj.1 (by omega)))
      generalize x.2.prices.getD j (Fr.zero, Fr.zero) = pp at *
      simp -implicitDefEqProofs only [EVc, Nat.reduceSub, Int.reduceLT, Int.reduceLE, Int.reduceEq, Int.reduceSub, Int.reduceAdd, Int.reduceMul, Int.reduceNeg, List.replicate, wipeE, List.replicate_zero, List.getElem?_cons_zero, List.getElem?_cons_succ, List.set_cons_succ, List.set_cons_zero, Option.map_some, if_true, if_false, ix]
      rw [A.mul _ _ _ b1.1 fa3]
      simp -implicitDefEqProofs only [EVc, Nat.reduceSub, Int.reduceLT, Int.reduceLE, Int.reduceEq, Int.reduceSub, Int.reduceAdd, Int.reduceMul, Int.reduceNeg, List.replicate, wipeE, List.replicate_zero, List.getElem?_cons_zero, List.getElem?_cons_succ, List.set_cons_succ, List.set_cons_zero, Option.map_some, if_true, if_false, ix]
      rw [l2_mul (okn b1.2) (okd fa3)]
      simp -implicitDefEqProofs only [EVc, Nat.reduceSub, Int.reduceLT, Int.reduceLE, Int.reduceEq, Int.reduceSub, Int.reduceAdd, Int.reduceMul, Int.reduceNeg, List.replicate, wipeE, List.replicate_zero, List.getElem?_cons_zero, List.getElem?_cons_succ, List.set_cons_succ, List.set_cons_zero, Option.map_some, if_true, if_false, ix]
      rw [l2_mul (okd b1.2) (okn fa3)]
      simp -implicitDefEqProofs only [EVc, Nat.reduceSub, Int.reduceLT, Int.reduceLE, Int.reduceEq, Int.reduceSub, Int.reduceAdd, Int.reduceMul, Int.reduceNeg, List.replicate, wipeE, List.replicate_zero, List.getElem?_cons_zero, List.getElem?_cons_succ, List.set_cons_succ, List.set_cons_zero, Option.map_some, if_true, if_false, ix]
      have n0 : pp.2.d * fa.n ≠ 0 := Int.ne_of_gt (Int.mul_pos b1.2.pos fn)
      rw [A.f _ _ _ n0 ((b1.2.d.mul fa3.n).mono (by decide))]
      (try first | trivial | exact ⟨rfl, rfl⟩ | exact ⟨rfl, trivial⟩ | rfl)⟩)]
    have e1 : (List.range' 1 (g - 1)).map (fun j => ppv ((x.2.prices.getD j (Fr.zero, Fr.zero)).1.mul fa, (x.2.prices.getD j (Fr.zero, Fr.zero)).2.div fa)) = (wideP fa x.2.ps).map ppv := by
      have := range_getD (fun p : PP => ppv (p.1.mul fa, p.2.div fa)) (Fr.one, Fr.one) (Fr.zero, Fr.zero) x.2.ps
      rw [show x.2.ps.length = g - 1 by omega] at this
      unfold wideP
      rw [List.map_map]
      exact this
    rw [e1]
    simp -implicitDefEqProofs only [EVc, Nat.reduceSub, Int.reduceLT, Int.reduceLE, Int.reduceEq, Int.reduceSub, Int.reduceAdd, Int.reduceMul, Int.reduceNeg, List.replicate, wipeE, List.replicate_zero, List.getElem?_cons_zero, List.getElem?_cons_succ, List.set_cons_succ, List.set_cons_zero, Option.map_some, if_true, if_false]
    have f1 : findN (n.mapP (wideP fa)) x.1 = some (x.2.mapP (wideP fa)) := by rw [findN_mapP, hq2]; rfl
    have f2 : findN (n.mapP (turnP rr)) x.1 = some (x.2.mapP (turnP rr)) := by rw [findN_mapP, hq2]; rfl
    rw [A.find.at f1]
    simp -implicitDefEqProofs only [EVc, Nat.reduceSub, Int.reduceLT, Int.reduceLE, Int.reduceEq, Int.reduceSub, Int.reduceAdd, Int.reduceMul, Int.reduceNeg, List.replicate, wipeE, List.replicate_zero, List.getElem?_cons_zero, List.getElem?_cons_succ, List.set_cons_succ, List.set_cons_zero, Option.map_some, if_true, if_false]
    have ix0 : lift2 gIx (x.2.mapP (wideP fa)).pv (.int 0) S4 = .ok (.tup ((wideP fa x.2.ps).map ppv)) S4 := by
      rw [Nd.pv_eq, mapP_ps]; exact ixT0
    simp -implicitDefEqProofs only [EVc, Nat.reduceSub, Int.reduceLT, Int.reduceLE, Int.reduceEq, Int.reduceSub, Int.reduceAdd, Int.reduceMul, Int.reduceNeg, List.replicate, wipeE, List.replicate_zero, List.getElem?_cons_zero, List.getElem?_cons_succ, List.set_cons_succ, List.set_cons_zero, Option.map_some, if_true, if_false, ix0, ne_pps]
    rw [A.pri _ _ _ x.1 S4 ok2 f2]
    simp -implicitDefEqProofs only [EVc, Nat.reduceSub, Int.reduceLT, Int.reduceLE, Int.reduceEq, Int.reduceSub, Int.reduceAdd, Int.reduceMul, Int.reduceNeg, List.replicate, wipeE, List.replicate_zero, List.getElem?_cons_zero, List.getElem?_cons_succ, List.set_cons_succ, List.set_cons_zero, Option.map_some, if_true, if_false]
    rw [comp_map (fun (j : Nat) => PV.int j) (fun j => ppv (x.2.prices.getD j (Fr.zero, Fr.zero))) (0 :: rr) (fun j hj => ⟨_, rfl, by
      have ix : lift2 gIx (.tup (x.2.prices.map ppv)) (.int (j : Int)) S4 = .ok (ppv (x.2.prices.getD j (Fr.zero, Fr.zero))) S4 := ixT (mapDP (by
        rcases List.mem_cons.mp hj with rfl | hj
        · exact Nat.succ_pos _
        · have := rk j hj; exact zd j this.1 this.2))
      simp -implicitDefEqProofs only [EVc, Nat.reduceSub, Int.reduceLT, Int.reduceLE, Int.reduceEq, Int.reduceSub, Int.reduceAdd, Int.reduceMul, Int.reduceNeg, List.replicate, wipeE, List.replicate_zero, List.getElem?_cons_zero, List.getElem?_cons_succ, List.set_cons_succ, List.set_cons_zero, Option.map_some, if_true, if_false, ix]⟩)]
    have e2 : (0 :: rr).map (fun j => ppv (x.2.prices.getD j (Fr.zero, Fr.zero))) = (x.2.mapP (turnP rr)).prices.map ppv := by
      show ppv (Fr.one, Fr.one) :: _ = ppv (Fr.one, Fr.one) :: (x.2.mapP (turnP rr)).ps.map ppv
      rw [mapP_ps]
      unfold turnP
      rw [List.map_map]
      congr 1
      refine List.map_congr_left fun k hk => ?_
      have := (rk k hk).1
      show ppv (((Fr.one, Fr.one) :: x.2.ps).getD k (Fr.zero, Fr.zero)) = _
      rw [getD_pred this]; rfl
    rw [e2]
    simp -implicitDefEqProofs only [EVc, Nat.reduceSub, Int.reduceLT, Int.reduceLE, Int.reduceEq, Int.reduceSub, Int.reduceAdd, Int.reduceMul, Int.reduceNeg, List.replicate, wipeE, List.replicate_zero, List.getElem?_cons_zero, List.getElem?_cons_succ, List.set_cons_succ, List.set_cons_zero, Option.map_some, if_true, if_false, ne_pps]
    have ta := A.told.a g h n (x.1.map fun (k : Nat) => (k : Int)) S4 M
    rw [pai_nat, findI_nat, hq2] at ta
    rw [ta]
    simp -implicitDefEqProofs only [EVc, Nat.reduceSub, Int.reduceLT, Int.reduceLE, Int.reduceEq, Int.reduceSub, Int.reduceAdd, Int.reduceMul, Int.reduceNeg, List.replicate, wipeE, List.replicate_zero, List.getElem?_cons_zero, List.getElem?_cons_succ, List.set_cons_succ, List.set_cons_zero, Option.map_some, if_true, if_false]
    rw [A.find.at hq2]
    obtain ⟨h'', hh'', ht'', _⟩ := tree_pre [] M.tree x hxm
    obtain ⟨m1, m2⟩ := mkt_shp (k := (g : Int)) ht'' (by have := M.h2; omega)
    simp -implicitDefEqProofs only [EVc, Nat.reduceSub, Int.reduceLT, Int.reduceLE, Int.reduceEq, Int.reduceSub, Int.reduceAdd, Int.reduceMul, Int.reduceNeg, List.replicate, wipeE, List.replicate_zero, List.getElem?_cons_zero, List.getElem?_cons_succ, List.set_cons_succ, List.set_cons_zero, Option.map_some, if_true, if_false, ne_self m1 m2]
    exact ⟨by rw [← hd]; simp, _, _, _, rfl⟩
  intro dn ρ S hI
  obtain ⟨_, hS, c8, c10, c11, hρ⟩ := hI
  subst hS; subst hρ
  obtain ⟨m1, m2⟩ := mkt_shp (k := (g : Int)) M.tree M.h2
  rw [tlE28_9]
  have u1 := A.told.w g h n Fr.one S4 M ⟨by decide, show (1 : Nat) < 2 ^ 10 by decide, show (1 : Nat) < 2 ^ 10 by decide⟩ (by decide)
  have u2 := A.told.w g h n ⟨8, 9⟩ S4 M ⟨by decide, show (8 : Nat) < 2 ^ 10 by decide, show (9 : Nat) < 2 ^ 10 by decide⟩ (by decide)
  rw [if_neg (by decide), mapP_id (fun ps hps => wide_one ps hps) M.tree] at u1
  rw [if_pos (by decide)] at u2
  have u1 : G 26 [.int 0, mkt (g : Int) n, .tup [.int 1, .int 1]] S4 = .ok (mkt (g : Int) n) S4 := u1
  have u2 : G 26 [.int 0, mkt (g : Int) n, .tup [.int 8, .int 9]] S4 = .ok (.str "market") S4 := u2
  have om : PySem.Str.ofString "market" = ("market" : Str) := rfl
  have oo : PySem.Str.ofString "moment" = ("moment" : Str) := rfl
  simp -implicitDefEqProofs only [EVc, Nat.reduceSub, Int.reduceLT, Int.reduceLE, Int.reduceEq, Int.reduceSub, Int.reduceAdd, Int.reduceMul, Int.reduceNeg, List.replicate, wipeE, List.replicate_zero, List.getElem?_cons_zero, List.getElem?_cons_succ, List.set_cons_succ, List.set_cons_zero, Option.map_some, if_true, if_false]
  rw [u1]
  simp -implicitDefEqProofs only [EVc, Nat.reduceSub, Int.reduceLT, Int.reduceLE, Int.reduceEq, Int.reduceSub, Int.reduceAdd, Int.reduceMul, Int.reduceNeg, List.replicate, wipeE, List.replicate_zero, List.getElem?_cons_zero, List.getElem?_cons_succ, List.set_cons_succ, List.set_cons_zero, Option.map_some, if_true, if_false, ne_self m1 m2]
  rw [u2]
  simp -implicitDefEqProofs only [EVc, Nat.reduceSub, Int.reduceLT, Int.reduceLE, Int.reduceEq, Int.reduceSub, Int.reduceAdd, Int.reduceMul, Int.reduceNeg, List.replicate, wipeE, List.replicate_zero, List.getElem?_cons_zero, List.getElem?_cons_succ, List.set_cons_succ, List.set_cons_zero, Option.map_some, if_true, if_false, om, ne_str]
  obtain ⟨w, S5, e5, w0, w3, d5⟩ := A.take [] S4 3 d4 (by decide) (by decide +kernel)
  rw [tlE28_10]
  have c1 : cutP ((0 :: rr).map fun (k : Nat) => PV.int k) (some 1) none = rr.map fun (k : Nat) => PV.int k := cut_from (xs := (0 :: rr).map fun (k : Nat) => PV.int k) (k := 1) (by rw [List.length_map, List.length_cons]; omega)
  have c2 : ∀ S, lift2 gAdd (.tup [.int 1]) (.tup (rr.map fun (k : Nat) => PV.int k)) S = .ok (ord (1 :: rr)) S := fun S => by
    have : 2000 ≤ sz := by decide
    exact l2_addTs (by rw [List.length_map, List.length_singleton]; omega)
  have c3 : ∀ S, lift2 gAdd (ord (0 :: rr)) (.tup [.int 0]) S = .ok (ord ((0 :: rr) ++ [0])) S := fun S => by
    have : 2000 ≤ sz := by decide
    show _ = Res.ok (PV.tup (((0 :: rr) ++ [0]).map fun (k : Nat) => PV.int k)) S
    rw [List.map_append]
    exact l2_addTs (by rw [List.length_map, List.length_singleton, List.length_cons]; omega)
  have c4 : cutP ((0 :: rr).map fun (k : Nat) => PV.int k) none (some (-1)) = ((0 :: rr).dropLast).map fun (k : Nat) => PV.int k := by rw [cut_m1, List.map_dropLast]
  simp -implicitDefEqProofs only [EVc, Nat.reduceSub, Int.reduceLT, Int.reduceLE, Int.reduceEq, Int.reduceSub, Int.reduceAdd, Int.reduceMul, Int.reduceNeg, List.replicate, wipeE, List.replicate_zero, List.getElem?_cons_zero, List.getElem?_cons_succ, List.set_cons_succ, List.set_cons_zero, Option.map_some, if_true, if_false, c1, c2, c3, c4]
  rw [e5]
  obtain ⟨o, eo, to⟩ : ∃ o : PV, (∀ S, lift2 gIx (.tup [ord (1 :: rr), ord ((0 :: rr) ++ [0]), .tup (((0 :: rr).dropLast).map fun (k : Nat) => PV.int k)]) (.int w) S = .ok o S) ∧ G 26 [.int 1, mkt (g : Int) n, o] S5 = .ok (.str "market") S5 := by
    have hw : w = 0 ∨ w = 1 ∨ w = 2 := by omega
    rcases hw with rfl | rfl | rfl
    · exact ⟨_, fun S => ixT0, A.told.t2 g h n (1 :: rr) S5 M (by rw [List.length_cons]; omega) 0 rr rfl⟩
    · exact ⟨_, fun S => ixT1, A.told.t1 g h n ((0 :: rr) ++ [0]) S5 M (by rw [List.length_append, List.length_cons, List.length_singleton]; omega) (by rw [List.length_append, List.length_cons, List.length_singleton]; omega)⟩
    · exact ⟨_, fun S => ixT2, A.told.t1 g h n ((0 :: rr).dropLast) S5 M (by rw [List.length_dropLast, List.length_cons]; omega) (by rw [List.length_dropLast, List.length_cons]; omega)⟩
  simp -implicitDefEqProofs only [EVc, Nat.reduceSub, Int.reduceLT, Int.reduceLE, Int.reduceEq, Int.reduceSub, Int.reduceAdd, Int.reduceMul, Int.reduceNeg, List.replicate, wipeE, List.replicate_zero, List.getElem?_cons_zero, List.getElem?_cons_succ, List.set_cons_succ, List.set_cons_zero, Option.map_some, if_true, if_false, eo]
  rw [tlE28_11]
  have f7 : findI n [7] = none := by
    show (if (7 : Int) < 0 ∨ (n.ks.length : Int) ≤ 7 then none else _) = _
    rw [if_pos]
    right
    have t := M.tree
    cases h with
    | zero => rw [show n.ks = [] from t.2]; decide
    | succ h => have := t.2.2.1; omega
  have t7 : G 26 [.int 2, mkt (g : Int) n, .tup [.int 7]] S5 = .ok (.str "moment") S5 := by
    have := A.told.a g h n [7] S5 M
    rw [f7] at this
    exact this
  have er : List.range g = 0 :: List.range' 1 (g - 1) := by
    rw [List.range_eq_range']
    cases g with
    | zero => omega
    | succ g => rw [List.range'_succ, Nat.add_sub_cancel]
  have tt := A.told.t3 g h n (List.range g) S5 M (by rw [List.length_range]; omega) (List.range' 1 (g - 1)) er (List.Perm.refl _)
  rw [mapP_id (fun ps hps => turn_id ps hps) M.tree] at tt
  simp -implicitDefEqProofs only [EVc, Nat.reduceSub, Int.reduceLT, Int.reduceLE, Int.reduceEq, Int.reduceSub, Int.reduceAdd, Int.reduceMul, Int.reduceNeg, List.replicate, wipeE, List.replicate_zero, List.getElem?_cons_zero, List.getElem?_cons_succ, List.set_cons_succ, List.set_cons_zero, Option.map_some, if_true, if_false]
  rw [to]
  simp -implicitDefEqProofs only [EVc, Nat.reduceSub, Int.reduceLT, Int.reduceLE, Int.reduceEq, Int.reduceSub, Int.reduceAdd, Int.reduceMul, Int.reduceNeg, List.replicate, wipeE, List.replicate_zero, List.getElem?_cons_zero, List.getElem?_cons_succ, List.set_cons_succ, List.set_cons_zero, Option.map_some, if_true, if_false, om, eq_str]
  rw [t7]
  simp -implicitDefEqProofs only [EVc, Nat.reduceSub, Int.reduceLT, Int.reduceLE, Int.reduceEq, Int.reduceSub, Int.reduceAdd, Int.reduceMul, Int.reduceNeg, List.replicate, wipeE, List.replicate_zero, List.getElem?_cons_zero, List.getElem?_cons_succ, List.set_cons_succ, List.set_cons_zero, Option.map_some, if_true, if_false, oo, eq_str]
  rw [rng1F_n (Nat.lt_of_le_of_lt g4 (by decide))]
  simp -implicitDefEqProofs only [EVc, Nat.reduceSub, Int.reduceLT, Int.reduceLE, Int.reduceEq, Int.reduceSub, Int.reduceAdd, Int.reduceMul, Int.reduceNeg, List.replicate, wipeE, List.replicate_zero, List.getElem?_cons_zero, List.getElem?_cons_succ, List.set_cons_succ, List.set_cons_zero, Option.map_some, if_true, if_false]
  rw [tt]
  simp -implicitDefEqProofs only [EVc, Nat.reduceSub, Int.reduceLT, Int.reduceLE, Int.reduceEq, Int.reduceSub, Int.reduceAdd, Int.reduceMul, Int.reduceNeg, List.replicate, wipeE, List.replicate_zero, List.getElem?_cons_zero, List.getElem?_cons_succ, List.set_cons_succ, List.set_cons_zero, Option.map_some, if_true, if_false, eq_self' m1 m2]
theorem plain (ns : List Int) (_ : ns.length ≤ 63) : ∃ S, callF T 60 28 [.scr ns] [] = .ok (.bl true) S := by
  have frac : ∀ k, FFrac (callF T (k + 1) 0) := fun k => by rw [s_fraction]; exact fraction_F
  have mul : ∀ k, FMul (callF T (k + 2) 1) := fun k => by rw [s_times]; exact mul_F (frac k)
  have div : ∀ k, FDiv (callF T (k + 2) 2) := fun k => by rw [s_over]; exact div_F (frac k)
  have cmp : ∀ k, FCmp (callF T (k + 1) 3) := fun k => by rw [s_compare]; exact cmp_F
  have nodes : ∀ k, NodesOk (callF T (k + 1) 4) := fun k => by rw [s_nodes_of]; exact nodes_F
  have right : ∀ k, RightOk (callF T (k + 2) 5) := fun k => by rw [s_right_prices]; exact right_F (cmp k)
  have chkm : ∀ k, CheckMOk (callF T (k + 3) 6) := fun k => by rw [s_check_market]; exact checkM_F (nodes (k + 1)) (right k)
  have nodeat : ∀ k, NodeAtOk (callF T (k + 1) 7) := fun k => by rw [s_node_at]; exact nodeAt_F
  have wid : ∀ h k, WideOk h (callF T (k + h + 3) 8) := fun h => by
    induction h with
    | zero =>
      intro k
      rw [show k + 0 + 3 = k + 2 + 1 by omega, s_wider_node]
      exact wider_F (mul k) (div k) fun h' e => nomatch e
    | succ h ih =>
      intro k
      rw [show k + (h + 1) + 3 = (k + h + 3) + 1 by omega, s_wider_node]
      exact wider_F (mul (k + h + 1)) (div (k + h + 1)) fun h' e => by obtain rfl : h = h' := by omega
                                                                       exact ih k
  have trn : ∀ h k, TurnOk h (callF T (k + h + 1) 10) := fun h => by
    induction h with
    | zero =>
      intro k
      rw [show k + 0 + 1 = k + 1 by omega, s_turned_node]
      exact turned_node_F fun h' e => nomatch e
    | succ h ih =>
      intro k
      rw [show k + (h + 1) + 1 = (k + h + 1) + 1 by omega, s_turned_node]
      exact turned_node_F fun h' e => by obtain rfl : h = h' := by omega
                                         exact ih k
  have wids : ∀ k, WidenedOk (callF T (k + 6) 9) := fun k => by
    rw [s_widened]
    exact widened_F (chkm (k + 2)) (cmp (k + 4)) fun h hh => by
      have := wid h (k + 2 - h)
      rwa [show k + 2 - h + h + 3 = k + 5 by omega] at this
  have trns : ∀ k, TurnedOk (callF T (k + 6) 11) := fun k => by
    rw [s_turned]
    exact turned_F (chkm (k + 2)) fun h hh => by
      have := trn h (k + 4 - h)
      rwa [show k + 4 - h + h + 1 = k + 5 by omega] at this
  have take : ∀ k, TakeOk (callF T (k + 1) 14) := fun k => by rw [s_law_take]; exact take_ok
  have gcd : ∀ k, GcdOk (callF T (k + 1) 15) := fun k a b S => by rw [s_law_gcd]; exact gcd_ok
  have lf : ∀ k, FFrac (callF T (k + 2) 16) := fun k => by rw [s_law_f]; exact lawf_F (gcd k)
  have lad : ∀ k, FAdd (callF T (k + 3) 17) := fun k => by rw [s_law_plus]; exact ladd_F (lf k)
  have lsu : ∀ k, FSub (callF T (k + 3) 18) := fun k => by rw [s_law_minus]; exact lsub_F (lf k)
  have lmu : ∀ k, FMul (callF T (k + 3) 19) := fun k => by rw [s_law_times]; exact lmul_F (lf k)
  have spr : ∀ k, SpreadOk (callF T (k + 4) 20) := fun k => by rw [s_law_spread]; exact spread_F (take (k + 2)) (lad k) (lsu k)
  have nod : ∀ h k, h ≤ 2 → LNodeOk h (callF T (k + h + 5) 21) := fun h => by
    induction h with
    | zero =>
      intro k hh
      rw [show k + 0 + 5 = k + 4 + 1 by omega, s_law_node]
      exact node_F hh (take (k + 3)) (fun h' e => nomatch e) (lf (k + 2)) (lad (k + 1)) (lmu (k + 1)) (spr k)
    | succ h ih =>
      intro k hh
      rw [show k + (h + 1) + 5 = (k + h + 5) + 1 by omega, s_law_node]
      exact node_F hh (take (k + h + 4)) (fun h' e => by obtain rfl : h = h' := by omega
                                                         exact ih k (by omega)) (lf (k + h + 3)) (lad (k + h + 2)) (lmu (k + h + 2)) (spr (k + h + 1))
  have mar : ∀ k, LMarketOk (callF T (k + 8) 22) := fun k => by
    rw [s_law_market]
    refine market_F (take (k + 6)) fun h hh => ?_
    have := nod h (k + 2 - h) hh
    rwa [show k + 2 - h + h + 5 = k + 7 by omega] at this
  have find : ∀ k, FindOk (callF T (k + 1) 24) := fun k => by rw [s_law_find]; exact find_F
  have lnod : ∀ k, LNodesOk (callF T (k + 2) 23) := fun k => by rw [s_law_nodes]; exact lnodes_F (find k)
  have lpri : ∀ k, LPricesOk (callF T (k + 2) 25) := fun k => by rw [s_law_prices]; exact lprices_F (find k)
  rw [c28]
  refine law_ok ⟨fun ns => ?_, take 58, lf 57, lmu 56, mar 51, lnod 57, find 58, lpri 57, ?_, ?_⟩ ns
  · rw [s_law_begin]; exact begin_ok ns
  · rw [c26]
    exact told_F (wids 52) (trns 52) fun g h n q S M => by
      rw [s_market_at]; exact market_at_F (chkm 54) (nodeat 56) g h n q S M
  · rw [c27]
    exact @order_F (callF T 58) (take 57)
end Py.k04
open PySem PySem.W PySem.Calls PyProof.Rows
theorem PySem.Challenge.cw_nolunch_k04_markets_from_markets_holds : PySem.Challenge.rw_nolunch_k04_markets_from_markets.Holds := by
  w_on; o_law
  refine HandSHeadRun.head_imp (r := OpenLaw.row PySem.Challenge.rw_nolunch_k04_markets_from_markets) (q := view (OpenLaw.row PySem.Challenge.rw_nolunch_k04_markets_from_markets).prog [0, 43]) (H := Py.k04.hk) (ob := Py.k04.ob) (M := 6000) (loose := Py.k04.lo) (d := HandSHeadRun.topDef (OpenLaw.row PySem.Challenge.rw_nolunch_k04_markets_from_markets).prog 43) (kwd := []) Py.k04.ob_eq
    Py.k04.run (by kernel_rfl) (by kernel_rfl) (by kernel_rfl) (by rfl) (by first | assumption | decide +kernel) (by decide +kernel) ⟨rfl, rfl, rfl, rfl, rfl, by decide +kernel⟩ ?hw ?hc
  case hw => w_witness2
  case hc =>
    refine Py.walk_w (l := PySem.Challenge.rw_nolunch_k04_markets_from_markets) (n := 63) (k := 60) (x := "_law_script") rfl (by decide) (by kernel_rfl) ⟨rfl, by decide, by decide⟩ ?_
    intro w mg f0 h Y G hmg0
    obtain ⟨K, KX, c⟩ := Y
    have hmg : mg ("law" : PySem.Str) = some (.ref f0) := by
      have e : (HandSHeadRun.topDef (OpenLaw.row PySem.Challenge.rw_nolunch_k04_markets_from_markets).prog 43).name = ("law" : PySem.Str) := by kernel_rfl
      rw [← e]
      exact hmg0
    exact ⟨K, KX, Py.law_facts (T := Py.k04.T) KX G hmg c.t.d c.more Py.k04.good (i := 28) (f := Py.k04.f28) rfl rfl rfl (c.t.d.fact 0 (f := .glo "law") rfl)
      (fun fd a D s v => L2.FunD.bindsA (ps := ["_law_script"]) D (fun _ _ _ _ _ _ us hl => match us, hl with | [_], _ => rfl) s [v] rfl) (by decide) Py.k04.plain⟩
