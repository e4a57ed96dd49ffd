import PyProof.Rows.All
import Wide.All
import OpenK.AllK
import Wide.FinOn
import HandS.ForMost
import HandS.Exc
import HandS.ExcOwn
import HandS.WordsExc
import HandS.HeadHook2
import HandS.IsInst
import HandS.TupAny
import HandS.Style
import HandS.Deep
import HandS.Defaults
import HandS.CallSlots
import HandS.TryMany
import HandS.More
import HandS.Conv
import HandS.Flow
import HandS.SetFor
import HandS.Zip
import KE.SortData
import KE.DataMinMax
import HandS.TupSets
import HandS.Flt
import KE.GoesEnum
import KE.GoesZip
import KE.GoesMore
import PyProof.SumWalkG
import HandS.TupMul
import HandS.Strs
import KE.KStateDown
import HandS.Base
import HandS.Call
import HandS.Ends
import HandS.Words
import HandS.Head0
import HandS.Head1
import HandS.Head2
import HandS.HeadEnd
import HandS.HeadHook1
import PySem.Challenge.RW_placeround_k22_turns_heard
set_option Elab.async false
set_option linter.all false
set_option maxRecDepth 100000
set_option maxHeartbeats 4000000
/-! A functional layer over the hand layer: each piece of code is a total Lean function over plain data. -/
namespace Fx
open PySem
open L2

/-! ### plain data -/
inductive D where
  | non | bl (b : Bool) | int (i : Int) | str (x : Str)
  | tup (ds : List D) | lst (ds : List D) | scr (ds : List Int) | ref (n : Nat) | fn (x : Str)

/-- the program's refusals -/
inductive Ex where
  | RoundError | NoSize | NoWeights | NoDeal | NoAsks | NoThing | NoPlace | NoCount | Taken | Leans | NoText | Nothing | Stuck | NoDeeds
  deriving DecidableEq
def Ex.name : Ex → Str
  | .RoundError => "RoundError" | .NoSize => "NoSize" | .NoWeights => "NoWeights" | .NoDeal => "NoDeal" | .NoAsks => "NoAsks" | .NoThing => "NoThing" | .NoPlace => "NoPlace"
  | .NoCount => "NoCount" | .Taken => "Taken" | .Leans => "Leans" | .NoText => "NoText" | .Nothing => "Nothing" | .Stuck => "Stuck" | .NoDeeds => "NoDeeds"

/-! ### data as values over an abstract heap: ρ the instances' places, B the places that may change -/
abbrev Bz := Addr → Prop
/-- ρ: the instances' places, W: what may be written -/
structure Wd where
  ρ : List Addr
  W : Addr → Prop
mutual
def R (w : Wd) (B : Bz) (H : Hp) : D → V → Prop
  | .non, v => v = .non
  | .bl b, v => v = .bl b
  | .int i, v => v = .int i
  | .str x, v => v = .str x
  | .tup ds, v => ∃ a vs, v = .ref a ∧ ¬ B a ∧ H a = some (.tup vs) ∧ RL w B H ds vs
  | .lst ds, v => ∃ a vs, v = .ref a ∧ ¬ B a ∧ H a = some (.lst vs) ∧ RL w B H ds vs
  | .scr ns, v => ∃ a, v = .ref a ∧ ¬ B a ∧ Rd H a (.lst (ns.map V.int))
  | .ref n, v => ∃ a, v = .ref a ∧ w.ρ[n]? = some a
  | .fn _, _ => False
def RL (w : Wd) (B : Bz) (H : Hp) : List D → List V → Prop
  | [], vs => vs = []
  | d :: ds, vs => ∃ v r, vs = v :: r ∧ R w B H d v ∧ RL w B H ds r
end

/-- what stands at places that may not change stays, and may not change further on -/
def Keep (B : Bz) (H : Hp) (B' : Bz) (H' : Hp) : Prop := ∀ a o, H a = some o → ¬ B a → H' a = some o ∧ ¬ B' a
theorem Keep.refl {B : Bz} {H : Hp} : Keep B H B H := fun _ _ h b => ⟨h, b⟩
theorem Keep.trans {B B1 B2 : Bz} {H H1 H2 : Hp} (x : Keep B H B1 H1) (y : Keep B1 H1 B2 H2) : Keep B H B2 H2 := fun a o h b =>
  let ⟨h1, b1⟩ := x a o h b
  y a o h1 b1
def Pre (ρ ρ' : List Addr) : Prop := ∃ l, ρ' = ρ ++ l
theorem Pre.refl {ρ : List Addr} : Pre ρ ρ := ⟨[], by simp⟩
theorem Pre.trans {ρ ρ1 ρ2 : List Addr} (x : Pre ρ ρ1) (y : Pre ρ1 ρ2) : Pre ρ ρ2 := by
  obtain ⟨l, rfl⟩ := x
  obtain ⟨m, rfl⟩ := y
  exact ⟨l ++ m, by simp⟩
theorem Pre.at {ρ ρ' : List Addr} (x : Pre ρ ρ') {n : Nat} {a : Addr} (h : ρ[n]? = some a) : ρ'[n]? = some a := by
  obtain ⟨l, rfl⟩ := x
  rw [List.getElem?_append_left (List.getElem?_eq_some_iff.mp h).1]
  exact h

mutual
theorem R.keep {w w' : Wd} {B B' : Bz} {H H' : Hp} (p : Pre w.ρ w'.ρ) (k : Keep B H B' H') : ∀ (d : D) (v : V), R w B H d v → R w' B' H' d v
  | .non, v, h => by rw [R] at h ⊢; exact h
  | .bl b, v, h => by rw [R] at h ⊢; exact h
  | .int i, v, h => by rw [R] at h ⊢; exact h
  | .str x, v, h => by rw [R] at h ⊢; exact h
  | .tup ds, v, h => by
    rw [R] at h ⊢
    obtain ⟨a, vs, e, b, q, r⟩ := h
    exact ⟨a, vs, e, (k a _ q b).2, (k a _ q b).1, RL.keep p k ds vs r⟩
  | .lst ds, v, h => by
    rw [R] at h ⊢
    obtain ⟨a, vs, e, b, q, r⟩ := h
    exact ⟨a, vs, e, (k a _ q b).2, (k a _ q b).1, RL.keep p k ds vs r⟩
  | .scr ns, v, h => by
    rw [R] at h ⊢
    obtain ⟨a, e, b, q⟩ := h
    rcases q with q | ⟨o, q⟩
    · exact ⟨a, e, (k a _ q b).2, .inl (k a _ q b).1⟩
    · exact ⟨a, e, (k a _ q b).2, .inr ⟨o, (k a _ q b).1⟩⟩
  | .ref n, v, h => by
    rw [R] at h ⊢
    obtain ⟨a, e, q⟩ := h
    exact ⟨a, e, p.at q⟩
  | .fn x, v, h => by rw [R] at h; exact h.elim
theorem RL.keep {w w' : Wd} {B B' : Bz} {H H' : Hp} (p : Pre w.ρ w'.ρ) (k : Keep B H B' H') : ∀ (ds : List D) (vs : List V), RL w B H ds vs → RL w' B' H' ds vs
  | [], vs, h => by rw [RL] at h ⊢; exact h
  | d :: ds, vs, h => by
    rw [RL] at h ⊢
    obtain ⟨v, r, e, x, y⟩ := h
    exact ⟨v, r, e, R.keep p k d v x, RL.keep p k ds r y⟩
end

/-! ### instances -/
inductive Fld where
  | val (d : D) | own (ds : List D)
structure AI where
  cls : Str
  fs : List (Str × Fld)
abbrev AH := List AI
def FldR (w : Wd) (B : Bz) (H : Hp) : Fld → V → Prop
  | .val d, v => R w B H d v
  | .own ds, v => ∃ p vs, v = .ref p ∧ w.W p ∧ H p = some (.lst vs) ∧ RL w B H ds vs
structure RelH (K : PySem.W.Frag) (w : Wd) (B : Bz) (h : AH) (H : Hp) : Prop where
  len : w.ρ.length = h.length
  nd : w.ρ.Nodup
  wi : ∀ a, w.W a → H a ≠ none
  at_ : ∀ (n : Nat) ai, h[n]? = some ai → ∃ a dx vfs, w.ρ[n]? = some a ∧ w.W a ∧ H a = some (.ins (He.ga K ai.cls) dx vfs) ∧ Paired (fun (f : Str × Fld) (v : Str × V) => f.1 = v.1 ∧ FldR w B H f.2 v.2) ai.fs vfs
  apart : ∀ (n m i j : Nat) ai bi f g ds es p a b dx dy us vs, h[n]? = some ai → h[m]? = some bi → ai.fs[i]? = some (f, .own ds) → bi.fs[j]? = some (g, .own es) → w.ρ[n]? = some a → w.ρ[m]? = some b →
    H a = some (.ins (He.ga K ai.cls) dx us) → H b = some (.ins (He.ga K bi.cls) dy vs) → us[i]? = some (f, .ref p) → vs[j]? = some (g, .ref p) → n = m ∧ i = j

theorem pairedMap {α β : Type} {F G : α → β → Prop} : ∀ {l : List α} {m : List β}, Paired F l m → (∀ a b, F a b → G a b) → Paired G l m
  | _, _, .nil, _ => .nil
  | _, _, .cons r t, f => .cons (f _ _ r) (pairedMap t f)
/-- what is told of instances stays, where nothing that may be written was touched -/
theorem RelH.keep {K : PySem.W.Frag} {w : Wd} {B B' : Bz} {h : AH} {H H' : Hp} (x : RelH K w B h H) (hw : ∀ a o, H a = some o → w.W a → H' a = some o) (k : Keep B H B' H') : RelH K w B' h H' := by
  refine ⟨x.len, x.nd, fun a wa => ?_, fun n ai e => ?_, fun n m i j ai bi f g ds es p a b dx dy us vs e1 e2 e3 e4 e5 e6 e7 e8 e9 e10 => ?_⟩
  · cases q : H a with
    | none => exact absurd q (x.wi a wa)
    | some o => rw [hw a o q wa]; simp
  · obtain ⟨a, dx, vfs, e1, e2, e3, e4⟩ := x.at_ n ai e
    refine ⟨a, dx, vfs, e1, e2, hw _ _ e3 e2, pairedMap e4 fun f v ⟨q1, q2⟩ => ⟨q1, ?_⟩⟩
    obtain ⟨fn, ff⟩ := f
    cases ff with
    | val d => exact R.keep .refl k d _ q2
    | own ds =>
      obtain ⟨p, vs, z1, z2, z3, z4⟩ := q2
      exact ⟨p, vs, z1, z2, hw _ _ z3 z2, RL.keep .refl k ds vs z4⟩
  · obtain ⟨a', dx', vfs', f1, f2, f3, _⟩ := x.at_ n ai e1
    obtain ⟨b', dy', ufs', g1, g2, g3, _⟩ := x.at_ m bi e2
    rw [e5] at f1
    rw [e6] at g1
    cases f1
    cases g1
    have p1 := (hw _ _ f3 f2).symm.trans e7
    have p2 := (hw _ _ g3 g2).symm.trans e8
    cases p1
    cases p2
    exact x.apart n m i j ai bi f g ds es p a b _ _ _ _ e1 e2 e3 e4 e5 e6 f3 g3 e9 e10

/-! ### how a piece of code may change the world -/
structure Grow (w : Wd) (H : Hp) (w' : Wd) (H' : Hp) : Prop where
  rho : Pre w.ρ w'.ρ
  sub : ∀ a, w.W a → w'.W a
  new : ∀ a, w'.W a → w.W a ∨ H a = none
  keep : ∀ a o, H a = some o → ¬ w.W a → H' a = some o
  all : ∀ a, H' a = none → H a = none
theorem Grow.refl {w : Wd} {H : Hp} : Grow w H w H := ⟨.refl, fun _ h => h, fun _ h => .inl h, fun _ _ h _ => h, fun _ h => h⟩
theorem Grow.trans {w w1 w2 : Wd} {H H1 H2 : Hp} (x : Grow w H w1 H1) (y : Grow w1 H1 w2 H2) : Grow w H w2 H2 where
  rho := x.rho.trans y.rho
  sub := fun a h => y.sub a (x.sub a h)
  new := fun a h => (y.new a h).elim (x.new a) fun z => .inr (x.all a z)
  keep := fun a o h n => y.keep a o (x.keep a o h n) fun z => (x.new a z).elim n fun q => by rw [h] at q; cases q
  all := fun a h => x.all a (y.all a h)
/-- busy: the callers' own lists, this frame's own lists, what may be written -/
def Bu (O P : Addr → Prop) (w : Wd) : Bz := fun a => O a ∨ P a ∨ w.W a
theorem Grow.keepB {w w' : Wd} {H H' : Hp} {O P : Addr → Prop} (x : Grow w H w' H') : Keep (Bu O P w) H (Bu O P w') H' := fun a o h b =>
  ⟨x.keep a o h fun z => b (.inr (.inr z)), fun z => z.elim (fun q => b (.inl q)) fun z => z.elim (fun q => b (.inr (.inl q))) fun z => (x.new a z).elim (fun q => b (.inr (.inr q))) fun q => by rw [h] at q; cases q⟩
/-- a new object -/
theorem Grow.laid {w : Wd} {H : Hp} {p : Addr} {o : HO} (n : H p = none) : Grow w H w (upd H p o) where
  rho := .refl
  sub := fun _ h => h
  new := fun _ h => .inl h
  keep := fun a o' h _ => by rw [upd_ne (ne_of_none h n)]; exact h
  all := fun a h => by
    unfold upd at h
    split at h
    · cases h
    · exact h

/-! ### frames -/
inductive Sl where
  | none | val (d : D) | own (ds : List D)
abbrev Env' := List Sl
structure Fr where
  w : Wd
  H : Hp
  O : Addr → Prop
def SlR (w : Wd) (B : Bz) (P : Addr → Prop) (H : Hp) : Sl → Option (Option V) → Prop
  | .none, _ => True
  | .val d, v => ∃ x, v = some (some x) ∧ R w B H d x
  | .own ds, v => ∃ p vs, v = some (some (.ref p)) ∧ P p ∧ H p = some (.lst vs) ∧ RL w B H ds vs
structure RelF (K : PySem.W.Frag) (fr : Fr) (w : Wd) (P : Addr → Prop) (env : Env') (h : AH) (σ : St) (H : Hp) : Prop where
  rh : RelH K w (Bu fr.O P w) h H
  gr : Grow fr.w fr.H w H
  ob : ∀ a, fr.O a → fr.H a ≠ none ∧ ¬ fr.w.W a
  pp : ∀ a, P a → fr.H a = none ∧ H a ≠ none ∧ ¬ w.W a
  sl : ∀ (i : Nat) s, env[i]? = some s → SlR w (Bu fr.O P w) P H s σ[i]?
  inj : ∀ (i j : Nat) ds es p, env[i]? = some (.own ds) → env[j]? = some (.own es) → σ[i]? = some (some (.ref p)) → σ[j]? = some (some (.ref p)) → i = j
  len : env.length = σ.length

section
variable {K : PySem.W.Frag} {fr : Fr} {w w' : Wd} {P : Addr → Prop} {env : Env'} {h h' : AH} {σ : St} {H H' : Hp}
theorem RelF.ow (x : RelF K fr w P env h σ H) {a : Addr} (o : fr.O a) : H a ≠ none ∧ ¬ w.W a := by
  obtain ⟨n, nw⟩ := x.ob a o
  refine ⟨fun z => n (x.gr.all a z), fun z => ?_⟩
  rcases x.gr.new a z with q | q
  · exact nw q
  · exact n q
theorem RelF.grow (x : RelF K fr w P env h σ H) (g : Grow w H w' H') (rh : RelH K w' (Bu fr.O P w') h' H') : RelF K fr w' P env h' σ H' where
  rh := rh
  gr := x.gr.trans g
  ob := x.ob
  pp := fun a p => by
    obtain ⟨p1, p2, p3⟩ := x.pp a p
    refine ⟨p1, fun z => p2 (g.all a z), fun z => ?_⟩
    rcases g.new a z with q | q
    · exact p3 q
    · exact p2 q
  sl := fun i s e => by
    have q := x.sl i s e
    cases s with
    | none => trivial
    | val d =>
      obtain ⟨v, e1, r⟩ := q
      exact ⟨v, e1, R.keep g.rho g.keepB d v r⟩
    | own ds =>
      obtain ⟨p, vs, e1, pp, e2, r⟩ := q
      exact ⟨p, vs, e1, pp, g.keep p _ e2 (x.pp p pp).2.2, RL.keep g.rho g.keepB ds vs r⟩
  inj := x.inj
  len := x.len
end

/-! ### results -/
inductive Res (α : Type) where
  | ok (a : α) (h : AH)
  | exc (c : Ex) (h : AH)
  | stuck
abbrev M (α : Type) := Env' → AH → Res α
@[simp] def bnd {α β : Type} (r : Res α) (k : α → AH → Res β) : Res β := match r with
  | .ok a h => k a h
  | .exc c h => .exc c h
  | .stuck => .stuck
/-- how an abstract result stands for one of the layer's -/
abbrev RR (α β : Type) := Wd → Bz → Hp → α → β → Prop
def tX {α β : Type} (Rα : RR α β) (K : PySem.W.Frag) (Wx : WX) (fr : Fr) (w : Wd) (P : Addr → Prop) (σ : St) (H : Hp) (r : Res α) (Q : β → Hp → Prop) : Prop := match r with
  | .ok a h' => ∀ w' b H', Grow w H w' H' → RelH K w' (Bu fr.O P w') h' H' → Rα w' (Bu fr.O P w') H' a b → Q b H'
  | .exc c h' => ∀ w' H', Grow w H w' H' → RelH K w' (Bu fr.O P w') h' H' → Wx (.ref (He.ga K c.name)) none σ H'
  | .stuck => False
def tG {α β : Type} (Rα : RR α β) (K : PySem.W.Frag) (Wx : WX) (m : M α) : St → Hp → (β → Hp → Prop) → Prop := fun σ H Q =>
  ∃ fr w P env h, RelF K fr w P env h σ H ∧ tX Rα K Wx fr w P σ H (m env h) Q
abbrev REq (α : Type) : RR α α := fun _ _ _ a b => a = b
/-- values, tests, argument lists -/
abbrev tE (K : PySem.W.Frag) (Wx : WX) (m : M D) : TE := tG R K Wx m
abbrev tB (K : PySem.W.Frag) (Wx : WX) (m : M Bool) : TT := tG (REq Bool) K Wx m
abbrev tA (K : PySem.W.Frag) (Wx : WX) (m : M (List D)) : TA := tG RL K Wx m

section
variable {α β γ δ : Type} {Rα : RR α β} {Rγ : RR γ δ} {K : PySem.W.Frag} {Wx : WX} {fr : Fr} {w w1 : Wd} {P : Addr → Prop} {env : Env'} {h h1 : AH} {σ : St} {H H1 : Hp}
theorem tX.grow {r : Res α} {Q : β → Hp → Prop} (g : Grow w H w1 H1) (x : tX Rα K Wx fr w P σ H r Q) : tX Rα K Wx fr w1 P σ H1 r Q := by
  cases r with
  | ok a h' => exact fun w' b H' g' rh ra => x w' b H' (g.trans g') rh ra
  | exc c h' => exact fun w' H' g' rh => x w' H' (g.trans g') rh
  | stuck => exact x
/-- first one piece, then another -/
theorem tX.bnd {r : Res α} {k : α → AH → Res γ} {Q : δ → Hp → Prop} (F : RelF K fr w P env h σ H) (x : tX Rγ K Wx fr w P σ H (bnd r k) Q) :
    tX Rα K Wx fr w P σ H r (fun b H1 => ∃ a w1 h1, RelF K fr w1 P env h1 σ H1 ∧ Rα w1 (Bu fr.O P w1) H1 a b ∧ Grow w H w1 H1 ∧ tX Rγ K Wx fr w1 P σ H1 (k a h1) Q) := by
  cases r with
  | ok a h' => exact fun w' b H' g rh ra => ⟨a, w', h', F.grow g rh, ra, g, tX.grow g x⟩
  | exc c h' => exact x
  | stuck => exact x
theorem tX.imp {r : Res α} {Q Q' : β → Hp → Prop} (x : tX Rα K Wx fr w P σ H r Q) (i : ∀ b H, Q b H → Q' b H) : tX Rα K Wx fr w P σ H r Q' := by
  cases r with
  | ok a h' => exact fun w' b H' g rh ra => i _ _ (x w' b H' g rh ra)
  | exc c h' => exact x
  | stuck => exact x
theorem tX.fin {a : α} {b : β} {Q : β → Hp → Prop} (F : RelF K fr w P env h σ H) (x : tX Rα K Wx fr w P σ H (.ok a h) Q) (r : Rα w (Bu fr.O P w) H a b) : Q b H := x w b H .refl F.rh r
end
end Fx

namespace Fx
open PySem
open L2
/-! ### weaker readings -/
theorem peI {X : Cx} {e : Expr} {t t' : TE} (h : PE X e t) (i : ∀ σ H Q, t' σ H Q → t σ H Q) : PE X e t' := ⟨fun pins s σ H Q I q => h.run pins s σ H Q I (i σ H Q q)⟩
theorem ptI {X : Cx} {e : Expr} {t t' : TT} (h : PT X e t) (i : ∀ σ H Q, t' σ H Q → t σ H Q) : PT X e t' := ⟨fun pins s σ H Q I q => h.run pins s σ H Q I (i σ H Q q)⟩
theorem pwI {X : Cx} {e : Expr} {t t' : TT} (h : PW X e t) (i : ∀ σ H Q, t' σ H Q → t σ H Q) : PW X e t' := ⟨fun wh pins s σ H Q I q => h.run wh pins s σ H Q I (i σ H Q q)⟩
theorem paI {X : Cx} {e : List Expr} {t t' : TA} (h : PA X e t) (i : ∀ σ H Q, t' σ H Q → t σ H Q) : PA X e t' := ⟨fun pos pins s σ H Q I q => h.run pos pins s σ H Q I (i σ H Q q)⟩
theorem psI {X : Cx} {e : Stmt} {t t' : TS} (h : PS X e t) (i : ∀ D σ H, t' D σ H → t D σ H) : PS X e t' := ⟨fun pins s σ H D I q => h.run pins s σ H D I (i D σ H q)⟩
theorem pssI {X : Cx} {e : List Stmt} {t t' : TS} (h : PSs X e t) (i : ∀ D σ H, t' D σ H → t D σ H) : PSs X e t' := ⟨fun pins s σ H D I q => h.run pins s σ H D I (i D σ H q)⟩

/-! ### combinators -/
def lift {α : Type} (o : Option α) (h : AH) : Res α := match o with
  | some a => .ok a h
  | none => .stuck
def mVar (i : Nat) : M D := fun env h => match env[i]? with
  | some (.val d) => .ok d h
  | _ => .stuck
def mC (d : D) : M D := fun _ h => .ok d h
def mUn (g : D → Option D) (a : M D) : M D := fun env h => bnd (a env h) fun x h => lift (g x) h
def mBin (g : D → D → Option D) (a b : M D) : M D := fun env h => bnd (a env h) fun x h => bnd (b env h) fun y h => lift (g x y) h
def mIf {α : Type} (t : M Bool) (a b : M α) : M α := fun env h => bnd (t env h) fun c h => if c = true then a env h else b env h
def mAnd (a b : M Bool) : M Bool := fun env h => bnd (a env h) fun c h => if c = true then b env h else .ok false h
def mOr (a b : M Bool) : M Bool := fun env h => bnd (a env h) fun c h => if c = true then .ok true h else b env h
def mNot (a : M Bool) : M Bool := fun env h => bnd (a env h) fun c h => .ok (!c) h
def mNil : M (List D) := fun _ h => .ok [] h
def mCons (a : M D) (r : M (List D)) : M (List D) := fun env h => bnd (a env h) fun x h => bnd (r env h) fun xs h => .ok (x :: xs) h
def mCallF (f : List D → AH → Res D) (a : M (List D)) : M D := fun env h => bnd (a env h) f
def mFn (f : List D → Option D) (a : M (List D)) : M D := fun env h => bnd (a env h) fun xs h => lift (f xs) h
def mTst (g : D → Option Bool) (a : M D) : M Bool := fun env h => bnd (a env h) fun x h => lift (g x) h
def mVal (a : M Bool) : M D := fun env h => bnd (a env h) fun c h => .ok (.bl c) h
/-- a op b op' c, tests -/
def mChain (g g' : D → D → Option Bool) (a b c : M D) : M Bool := fun env h => bnd (a env h) fun x h => bnd (b env h) fun y h => bnd (lift (g x y) h) fun k h =>
  if k = true then bnd (c env h) fun z h => lift (g' y z) h else .ok false h
def mCmp (g : D → D → Option Bool) (a b : M D) : M Bool := fun env h => bnd (a env h) fun x h => bnd (b env h) fun y h => lift (g x y) h

/-! ### soundness of operations on data -/
/-- an operation of the layer on two values, by data -/
def S2 (K : PySem.W.Frag) (r : R2) (g : D → D → Option D) : Prop := ∀ (Wx : WX) fr w P env h σ H a b x y Q, RelF K fr w P env h σ H → R w (Bu fr.O P w) H a x → R w (Bu fr.O P w) H b y →
  tX R K Wx fr w P σ H (lift (g a b) h) Q → r x y H Q
def S1 (K : PySem.W.Frag) (r : V → Hp → VK → Prop) (g : D → Option D) : Prop := ∀ (Wx : WX) fr w P env h σ H a x Q, RelF K fr w P env h σ H → R w (Bu fr.O P w) H a x → tX R K Wx fr w P σ H (lift (g a) h) Q → r x H Q
def SC (K : PySem.W.Frag) (r : List V → Hp → VK → Prop) (g : List D → Option D) : Prop := ∀ (Wx : WX) fr w P env h σ H as xs Q, RelF K fr w P env h σ H → RL w (Bu fr.O P w) H as xs →
  tX R K Wx fr w P σ H (lift (g as) h) Q → r xs H Q

section
variable {X : Cx} {Wx : WX} {a b c e : Expr} {es : List Expr} {pos : Pos} {ma mb mc : M D} {mt mu : M Bool} {mr : M (List D)}
theorem e_var (i : Nat) {x : Str} {pos : Pos} (hN : X.N[i]? = some x := by rfl) (hv : Vis X.env.scope x := by first | exact Or.inl rfl | exact Or.inr (Or.inl rfl) | exact Or.inr (Or.inr rfl)) (hd : (x == ("__debug__" : Str)) = false := by decide)
    (hcd : (x == ("__classdict__" : Str)) = false := by decide) : PE X (.Name x pos) (tE X.K Wx (mVar i)) := by
  refine peI (pe_var hN hv hd hcd) fun σ H Q ⟨fr, w, P, env, h, F, q⟩ => ?_
  unfold mVar at q
  split at q
  · rename_i d e
    obtain ⟨v, e1, r⟩ := F.sl i _ e
    exact ⟨v, e1, tX.fin F q r⟩
  · exact q.elim
theorem e_c {d : D} {v : V} (he : PE X e (tC v)) (hr : ∀ w B H, R w B H d v) : PE X e (tE X.K Wx (mC d)) := peI he fun σ H Q ⟨fr, w, P, env, h, F, q⟩ => tX.fin F q (hr _ _ _)
theorem e_int {i : Int} {j : Nat} {pos : Pos} : PE X (.Constant (.int i) j pos) (tE X.K Wx (mC (.int i))) := e_c pe_int fun _ _ _ => by rw [R]
theorem e_bl {i : Bool} {j : Nat} {pos : Pos} : PE X (.Constant (.bool i) j pos) (tE X.K Wx (mC (.bl i))) := e_c pe_bl fun _ _ _ => by rw [R]
theorem e_str {i : Str} {j : Nat} {pos : Pos} : PE X (.Constant (.str i) j pos) (tE X.K Wx (mC (.str i))) := e_c pe_str fun _ _ _ => by rw [R]
theorem e_non {j : Nat} {pos : Pos} : PE X (.Constant .none j pos) (tE X.K Wx (mC .non)) := e_c pe_non fun _ _ _ => by rw [R]
/-- a module's whole number -/
theorem e_gint {x : Str} {i : Int} {pos : Pos} (hm : ∃ t, X.mg x = some (.int i t)) (hg : Gl X x := by rfl) (hd : (x == ("__debug__" : Str)) = false := by decide) : PE X (.Name x pos) (tE X.K Wx (mC (.int i))) := by
  obtain ⟨t, hm⟩ := hm
  exact e_c (v := .int i) (pe_glob hg hm ⟨t, rfl⟩ hd) fun _ _ _ => by rw [R]
theorem e_bin {op : Operator} {r : R2} {g : D → D → Option D} (ho : OpR X (binaryOp op) r) (hs : S2 X.K r g) (ha : PE X a (tE X.K Wx ma)) (hb : PE X b (tE X.K Wx mb)) : PE X (.BinOp a op b pos) (tE X.K Wx (mBin g ma mb)) := by
  refine peI (pe_op ho ha hb) fun σ H Q ⟨fr, w, P, env, h, F, q⟩ => ⟨fr, w, P, env, h, F, ?_⟩
  refine (tX.bnd (Rα := R) F q).imp fun x H1 ⟨d, w1, h1, F1, r1, g1, q1⟩ => ⟨fr, w1, P, env, h1, F1, ?_⟩
  refine (tX.bnd (Rα := R) F1 q1).imp fun y H2 ⟨d2, w2, h2, F2, r2, g2, q2⟩ => ?_
  exact hs Wx fr w2 P env h2 σ H2 d d2 x y Q F2 (R.keep g2.rho g2.keepB _ _ r1) r2 q2

/-- two expressions, then the rest -/
theorem two {ta tb : M D} {fr : Fr} {w : Wd} {P : Addr → Prop} {env : Env'} {h : AH} {σ : L2.St} {H : Hp} {γ δ : Type} {Rγ : RR γ δ} {k : D → D → AH → Res γ} {Q : δ → Hp → Prop} {G : V → V → Hp → Prop}
    (F : RelF X.K fr w P env h σ H) (q : tX Rγ X.K Wx fr w P σ H (bnd (ta env h) fun x h => bnd (tb env h) fun y h => k x y h) Q)
    (hk : ∀ d d2 w2 h2 x y H2, RelF X.K fr w2 P env h2 σ H2 → R w2 (Bu fr.O P w2) H2 d x → R w2 (Bu fr.O P w2) H2 d2 y → tX Rγ X.K Wx fr w2 P σ H2 (k d d2 h2) Q → G x y H2) :
    tE X.K Wx ta σ H fun x H1 => tE X.K Wx tb σ H1 fun y H2 => G x y H2 := by
  refine ⟨fr, w, P, env, h, F, ?_⟩
  refine (tX.bnd (Rα := R) F q).imp fun x H1 ⟨d, w1, h1, F1, r1, g1, q1⟩ => ⟨fr, w1, P, env, h1, F1, ?_⟩
  refine (tX.bnd (Rα := R) F1 q1).imp fun y H2 ⟨d2, w2, h2, F2, r2, g2, q2⟩ => ?_
  exact hk d d2 w2 h2 x y H2 F2 (R.keep g2.rho g2.keepB _ _ r1) r2 q2
/-- one expression, then the rest -/
theorem one' {α β : Type} {Rα : RR α β} {ta : M α} {fr : Fr} {w : Wd} {P : Addr → Prop} {env : Env'} {h : AH} {σ : L2.St} {H : Hp} {γ δ : Type} {Rγ : RR γ δ} {k : α → AH → Res γ} {Q : δ → Hp → Prop} {G : β → Hp → Prop}
    (F : RelF X.K fr w P env h σ H) (q : tX Rγ X.K Wx fr w P σ H (bnd (ta env h) k) Q)
    (hk : ∀ d w2 h2 x H2, RelF X.K fr w2 P env h2 σ H2 → Rα w2 (Bu fr.O P w2) H2 d x → Grow w H w2 H2 → tX Rγ X.K Wx fr w2 P σ H2 (k d h2) Q → G x H2) : tG Rα X.K Wx ta σ H G :=
  ⟨fr, w, P, env, h, F, (tX.bnd (Rα := Rα) F q).imp fun x H1 ⟨d, w1, h1, F1, r1, g1, q1⟩ => hk d w1 h1 x H1 F1 r1 g1 q1⟩
theorem e_un {op : UnaryOp} {r : V → Hp → VK → Prop} {g : D → Option D} (ho : UnR X (unaryOp op) r) (hs : S1 X.K r g) (ha : PE X a (tE X.K Wx ma)) : PE X (.UnaryOp op a pos) (tE X.K Wx (mUn g ma)) :=
  peI (pe_un ho ha) fun σ H Q ⟨fr, w, P, env, h, F, q⟩ => one' F q fun d w2 h2 x H2 F2 r2 _ q2 => hs Wx fr w2 P env h2 σ H2 d x Q F2 r2 q2
theorem e_if (ht : PT X c (tB X.K Wx mt)) (ha : PE X a (tE X.K Wx ma)) (hb : PE X b (tE X.K Wx mb)) : PE X (.IfExp c a b pos) (tE X.K Wx (mIf mt ma mb)) :=
  peI (pe_ifExp ht ha hb) fun σ H Q ⟨fr, w, P, env, h, F, q⟩ => one' F q fun d w2 h2 x H2 F2 r2 _ q2 => by
    cases (show d = x from r2)
    cases d with
    | true => exact ⟨fr, w2, P, env, h2, F2, q2⟩
    | false => exact ⟨fr, w2, P, env, h2, F2, q2⟩

/-! ### arguments, calls of built-ins -/
theorem a_nil : PA X [] (tA X.K Wx mNil) := paI pa_nil fun σ H Q ⟨fr, w, P, env, h, F, q⟩ => tX.fin F q (by rw [RL])
theorem a_cons (ha : PE X e (tE X.K Wx ma)) (hr : PA X es (tA X.K Wx mr)) (hs : starEach (e :: es) X.env = (false, eval e X.env) :: starEach es X.env := by rfl) : PA X (e :: es) (tA X.K Wx (mCons ma mr)) :=
  paI (pa_cons ha hr hs) fun σ H Q ⟨fr, w, P, env, h, F, q⟩ => one' F q fun d w1 h1 x H1 F1 r1 _ q1 => one' F1 q1 fun ds w2 h2 xs H2 F2 r2 g2 q2 =>
    tX.fin F2 q2 (by rw [RL]; exact ⟨x, xs, rfl, R.keep g2.rho g2.keepB _ _ r1, r2⟩)
theorem e_fn {x : Str} {p : Pos} {id : String} {r : List V → Hp → VK → Prop} {g : List D → Option D} (hc : CallR X (.builtin id) r) (hs : SC X.K r g) (hm : X.mg x = none) (hv : bootBuiltins x = some (.builtin id)) (ha : PA X (e :: es) (tA X.K Wx mr)) (hg : Gl X x := by rfl)
    (hn : x ≠ "__name__" := by decide) (hdb : (x == ("__debug__" : Str)) = false := by decide) (he : starEach (e :: es) X.env = (false, eval e X.env) :: starEach es X.env := by rfl) (hpl : (backTo pos (starEach es X.env)).any (·.1) = false := by rfl) :
    PE X (.Call (.Name x p) (e :: es) [] pos) (tE X.K Wx (mFn g mr)) :=
  peI (pe_callB hc hg hm hv ha hn hdb he hpl) fun σ H Q ⟨fr, w, P, env, h, F, q⟩ => one' F q fun ds w2 h2 xs H2 F2 r2 _ q2 => hs Wx fr w2 P env h2 σ H2 ds xs Q F2 r2 q2
theorem e_ty {x : Str} {p : Pos} {T : String} {r : List V → Hp → VK → Prop} {g : List D → Option D} (hc : CallR X (.type T) r) (hs : SC X.K r g) (hm : X.mg x = none) (hv : bootBuiltins x = some (.type T)) (ha : PA X (e :: es) (tA X.K Wx mr)) (hg : Gl X x := by rfl)
    (hn : x ≠ "__name__" := by decide) (hdb : (x == ("__debug__" : Str)) = false := by decide) (he : starEach (e :: es) X.env = (false, eval e X.env) :: starEach es X.env := by rfl) (hpl : (backTo pos (starEach es X.env)).any (·.1) = false := by rfl) :
    PE X (.Call (.Name x p) (e :: es) [] pos) (tE X.K Wx (mFn g mr)) :=
  peI (pe_callTy hc hg hm hv ha hn hdb he hpl) fun σ H Q ⟨fr, w, P, env, h, F, q⟩ => one' F q fun ds w2 h2 xs H2 F2 r2 _ q2 => hs Wx fr w2 P env h2 σ H2 ds xs Q F2 r2 q2

/-! ### tests -/
/-- a comparison on data -/
def SB (K : PySem.W.Frag) (r : R2) (g : D → D → Option Bool) : Prop := ∀ w B H a b x y k (Q : VK), R w B H a x → R w B H b y → g a b = some k → Q (.bl k) H → r x y H Q
theorem t_cmp {op : CmpOp} {r : R2} {g : D → D → Option Bool} (ho : OpR X (compareOp op) r) (hs : SB X.K r g) (ha : PE X a (tE X.K Wx ma)) (hb : PE X b (tE X.K Wx mb)) (hm : behindInMarks op b = false) :
    PT X (.Compare a [op] [b] pos) (tB X.K Wx (mCmp g ma mb)) :=
  ptI (pt_cmpR ho ha hb hm) fun σ H Q ⟨fr, w, P, env, h, F, q⟩ => two F q fun d d2 w2 h2 x y H2 F2 r1 r2 q2 => by
    cases e : g d d2 with
    | none =>
      rw [e] at q2
      exact q2.elim
    | some k =>
      rw [e] at q2
      exact hs _ _ H2 d d2 x y k _ r1 r2 e ⟨k, rfl, tX.fin F2 q2 rfl⟩
theorem e_cmp {op : CmpOp} {r : R2} {g : D → D → Option Bool} (ho : OpR X (compareOp op) r) (hs : SB X.K r g) (ha : PE X a (tE X.K Wx ma)) (hb : PE X b (tE X.K Wx mb)) (hm : behindInMarks op b = false) :
    PE X (.Compare a [op] [b] pos) (tE X.K Wx (mVal (mCmp g ma mb))) :=
  peI (pe_cmpR ho ha hb hm) fun σ H Q ⟨fr, w, P, env, h, F, q⟩ => by
    have q' : tX R X.K Wx fr w P σ H (bnd (ma env h) fun x h => bnd (mb env h) fun y h => bnd (lift (g x y) h) fun c h => .ok (.bl c) h) Q := by
      unfold mVal mCmp at q
      revert q
      cases ma env h with
      | ok a h' => cases e : mb env h' <;> simp only [bnd, e] <;> exact id
      | exc c h' => exact id
      | stuck => exact id
    refine two F q' fun d d2 w2 h2 x y H2 F2 r1 r2 q2 => ?_
    cases e : g d d2 with
    | none =>
      rw [e] at q2
      exact q2.elim
    | some k =>
      rw [e] at q2
      exact hs _ _ H2 d d2 x y k _ r1 r2 e (tX.fin F2 q2 (by rw [R]))
theorem bnd_assoc {α β γ : Type} (r : Res α) (k : α → AH → Res β) (l : β → AH → Res γ) : bnd (bnd r k) l = bnd r fun a h => bnd (k a h) l := by cases r <;> rfl
/-- a op b op' c as a test -/
theorem t_chain {op op' : CmpOp} {r r' : R2} {g g' : D → D → Option Bool} (ho : OpR X (compareOp op) r) (ho' : OpR X (compareOp op') r') (hs : SB X.K r g) (hs' : SB X.K r' g') (ha : PE X a (tE X.K Wx ma)) (hb : PE X b (tE X.K Wx mb)) (hc : PE X c (tE X.K Wx mc))
    (hm : lastMarks [op, op'] [b, c] = false := by with_unfolding_all rfl) : PT X (.Compare a [op, op'] [b, c] pos) (tB X.K Wx (mChain g g' ma mb mc)) :=
  ptI (pt_chain ho ho' ha hb hc hm) fun σ H Q ⟨fr, w, P, env, h, F, q⟩ => two F q fun d d2 w2 h2 x y H2 F2 r1 r2 q2 => by
    cases e : g d d2 with
    | none =>
      rw [e] at q2
      exact q2.elim
    | some k =>
      rw [e] at q2
      refine hs _ _ H2 d d2 x y k _ r1 r2 e ⟨k, rfl, ?_⟩
      cases k with
      | false => exact ⟨false, rfl, tX.fin F2 q2 rfl⟩
      | true =>
        rw [if_pos rfl]
        refine one' F2 q2 fun d3 w3 h3 z H3 F3 r3 g3 q3 => ?_
        cases e3 : g' d2 d3 with
        | none =>
          rw [e3] at q3
          exact q3.elim
        | some k3 =>
          rw [e3] at q3
          exact hs' _ _ H3 d2 d3 y z k3 _ (R.keep g3.rho g3.keepB _ _ r2) r3 e3 ⟨k3, rfl, tX.fin F3 q3 rfl⟩
theorem e_chain {op op' : CmpOp} {r r' : R2} {g g' : D → D → Option Bool} (ho : OpR X (compareOp op) r) (ho' : OpR X (compareOp op') r') (hs : SB X.K r g) (hs' : SB X.K r' g') (ha : PE X a (tE X.K Wx ma)) (hb : PE X b (tE X.K Wx mb)) (hc : PE X c (tE X.K Wx mc))
    (hm : lastMarks [op, op'] [b, c] = false := by with_unfolding_all rfl) : PE X (.Compare a [op, op'] [b, c] pos) (tE X.K Wx (mVal (mChain g g' ma mb mc))) :=
  peI (pe_chain ho ho' ha hb hc hm) fun σ H Q ⟨fr, w, P, env, h, F, q⟩ => by
    have q' : tX R X.K Wx fr w P σ H (bnd (ma env h) fun x h => bnd (mb env h) fun y h => bnd (bnd (lift (g x y) h) fun k h => if k = true then bnd (mc env h) fun z h => lift (g' y z) h else .ok false h) fun c h => .ok (.bl c) h) Q := by
      have e : mVal (mChain g g' ma mb mc) env h = (bnd (ma env h) fun x h => bnd (mb env h) fun y h => bnd (bnd (lift (g x y) h) fun k h => if k = true then bnd (mc env h) fun z h => lift (g' y z) h else .ok false h) fun c h => .ok (.bl c) h) := by
        unfold mVal mChain
        rw [bnd_assoc]
        cases ma env h with
        | ok a h' => show bnd (bnd _ _) _ = _; rw [bnd_assoc]; rfl
        | exc c h' => rfl
        | stuck => rfl
      rw [← e]
      exact q
    refine two F q' fun d d2 w2 h2 x y H2 F2 r1 r2 q2 => ?_
    cases e : g d d2 with
    | none =>
      rw [e] at q2
      exact q2.elim
    | some k =>
      rw [e] at q2
      refine hs _ _ H2 d d2 x y k _ r1 r2 e ⟨k, rfl, ?_⟩
      cases k with
      | false => exact tX.fin F2 q2 (by rw [R])
      | true =>
        rw [if_pos rfl]
        have q3 : tX R X.K Wx fr w2 P σ H2 (bnd (mc env h2) fun z h => bnd (lift (g' d2 z) h) fun c h => .ok (.bl c) h) Q := by
          rw [← bnd_assoc]
          exact q2
        refine one' F2 q3 fun d3 w3 h3 z H3 F3 r3 g3 q3 => ?_
        cases e3 : g' d2 d3 with
        | none =>
          rw [e3] at q3
          exact q3.elim
        | some k3 =>
          rw [e3] at q3
          exact hs' _ _ H3 d2 d3 y z k3 _ (R.keep g3.rho g3.keepB _ _ r2) r3 e3 (tX.fin F3 q3 (by rw [R]))
variable {rest : List Expr}
theorem w_and1 (ha : PT X a (tB X.K Wx mt)) : PW X (.BoolOp .And [a] pos) (tB X.K Wx mt) := pw_and1 ha
theorem w_or1 (ha : PT X a (tB X.K Wx mt)) : PW X (.BoolOp .Or [a] pos) (tB X.K Wx mt) := pw_or1 ha
theorem w_and (ha : PT X a (tB X.K Wx mt)) (hb : PW X (.BoolOp .And (b :: rest) pos) (tB X.K Wx mu)) : PW X (.BoolOp .And (a :: b :: rest) pos) (tB X.K Wx (mAnd mt mu)) :=
  pwI (pw_and ha hb) fun σ H Q ⟨fr, w, P, env, h, F, q⟩ => one' F q fun d w2 h2 x H2 F2 r2 _ q2 => by
    cases (show d = x from r2)
    cases d with
    | true => exact ⟨fr, w2, P, env, h2, F2, q2⟩
    | false => exact tX.fin F2 q2 rfl
theorem w_or (ha : PT X a (tB X.K Wx mt)) (hb : PW X (.BoolOp .Or (b :: rest) pos) (tB X.K Wx mu)) : PW X (.BoolOp .Or (a :: b :: rest) pos) (tB X.K Wx (mOr mt mu)) :=
  pwI (pw_or ha hb) fun σ H Q ⟨fr, w, P, env, h, F, q⟩ => one' F q fun d w2 h2 x H2 F2 r2 _ q2 => by
    cases (show d = x from r2)
    cases d with
    | true => exact tX.fin F2 q2 rfl
    | false => exact ⟨fr, w2, P, env, h2, F2, q2⟩
theorem t_not (ha : PT X a (tB X.K Wx mt)) : PT X (.UnaryOp .Not a pos) (tB X.K Wx (mNot mt)) :=
  ptI (pt_not ha) fun σ H Q ⟨fr, w, P, env, h, F, q⟩ => one' F q fun d w2 h2 x H2 F2 r2 _ q2 => by
    cases (show d = x from r2)
    exact tX.fin F2 q2 rfl
/-- truths as values -/
theorem e_one {op : BoolOp} (h : PE X a (tE X.K Wx ma)) : PE X (.BoolOp op [a] pos) (tE X.K Wx ma) := pe_one h
theorem e_and (ha : PE X a (tE X.K Wx (mVal mt))) (hb : PE X (.BoolOp .And (b :: rest) pos) (tE X.K Wx (mVal mu))) : PE X (.BoolOp .And (a :: b :: rest) pos) (tE X.K Wx (mVal (mAnd mt mu))) :=
  peI (pe_and ha hb) fun σ H Q ⟨fr, w, P, env, h, F, q⟩ => by
    have q' : tX R X.K Wx fr w P σ H (bnd (mVal mt env h) fun d h => match d with | .bl c => if c = true then mVal mu env h else .ok (.bl false) h | _ => .stuck) Q := by
      unfold mVal mAnd at q
      rw [bnd_assoc] at q
      unfold mVal
      rw [bnd_assoc]
      revert q
      cases mt env h with
      | ok c h' =>
        cases c with
        | true => exact id
        | false => exact id
      | exc c h' => exact id
      | stuck => exact id
    refine one' F q' fun d w2 h2 x H2 F2 r2 _ q2 => ?_
    cases d with
    | bl c =>
      rw [R] at r2
      refine ⟨c, r2, ?_⟩
      cases c with
      | true => exact ⟨fr, w2, P, env, h2, F2, q2⟩
      | false => exact tX.fin F2 q2 (by rw [R])
    | _ => exact q2.elim
theorem e_or (ha : PE X a (tE X.K Wx (mVal mt))) (hb : PE X (.BoolOp .Or (b :: rest) pos) (tE X.K Wx (mVal mu))) : PE X (.BoolOp .Or (a :: b :: rest) pos) (tE X.K Wx (mVal (mOr mt mu))) :=
  peI (pe_or ha hb) fun σ H Q ⟨fr, w, P, env, h, F, q⟩ => by
    have q' : tX R X.K Wx fr w P σ H (bnd (mVal mt env h) fun d h => match d with | .bl c => if c = true then .ok (.bl true) h else mVal mu env h | _ => .stuck) Q := by
      unfold mVal mOr at q
      rw [bnd_assoc] at q
      unfold mVal
      rw [bnd_assoc]
      revert q
      cases mt env h with
      | ok c h' =>
        cases c with
        | true => exact id
        | false => exact id
      | exc c h' => exact id
      | stuck => exact id
    refine one' F q' fun d w2 h2 x H2 F2 r2 _ q2 => ?_
    cases d with
    | bl c =>
      rw [R] at r2
      refine ⟨c, r2, ?_⟩
      cases c with
      | true => exact tX.fin F2 q2 (by rw [R])
      | false => exact ⟨fr, w2, P, env, h2, F2, q2⟩
    | _ => exact q2.elim
end
end Fx

namespace Fx
open PySem
open L2
section
variable {X : Cx} {Wx : WX} {a b c e : Expr} {es : List Expr} {pos : Pos} {ma mb mc : M D} {mt mu : M Bool} {mr : M (List D)}
theorem e_not (ha : PE X a (tE X.K Wx (mVal mt))) : PE X (.UnaryOp .Not a pos) (tE X.K Wx (mVal (mNot mt))) :=
  peI (pe_not ha) fun σ H Q ⟨fr, w, P, env, h, F, q⟩ => by
    have q' : tX R X.K Wx fr w P σ H (bnd (mVal mt env h) fun d h => match d with | .bl c => .ok (.bl (!c)) h | _ => .stuck) Q := by
      unfold mVal mNot at q
      unfold mVal
      rw [bnd_assoc] at q ⊢
      exact q
    refine one' F q' fun d w2 h2 x H2 F2 r2 _ q2 => ?_
    cases d with
    | bl c =>
      rw [R] at r2
      exact ⟨c, r2, tX.fin F2 q2 (by rw [R])⟩
    | _ => exact q2.elim
/-! ### a value's truth -/
def truthD : D → Option Bool
  | .non => some false
  | .bl b => some b
  | .int i => some (i != 0)
  | .str x => if x.length ≤ sizeLine then some ((x.length : Int) != 0) else none
  | .tup ds => some (!ds.isEmpty)
  | .lst ds => some (!ds.isEmpty)
  | .scr ds => some (!ds.isEmpty)
  | _ => none
theorem RL.len {w : Wd} {B : Bz} {H : Hp} : ∀ {ds : List D} {vs : List V}, RL w B H ds vs → vs.length = ds.length
  | [], vs, h => by rw [RL] at h; rw [h]; rfl
  | d :: ds, vs, h => by
    rw [RL] at h
    obtain ⟨v, r, rfl, _, h2⟩ := h
    simp [RL.len h2]
theorem RL.empty {w : Wd} {B : Bz} {H : Hp} {ds : List D} {vs : List V} (h : RL w B H ds vs) : vs.isEmpty = ds.isEmpty := by
  have := h.len
  cases ds <;> cases vs <;> simp_all
theorem truth_ok {K : PySem.W.Frag} {w : Wd} {B : Bz} {H : Hp} {d : D} {x : V} {k : Bool} (r : R w B H d x) (e : truthD d = some k) : TruV K x H k := by
  cases d with
  | non => rw [R] at r; subst r; cases e; rfl
  | bl b => rw [R] at r; subst r; cases e; rfl
  | int i => rw [R] at r; subst r; cases e; rfl
  | str y =>
    rw [R] at r
    subst r
    have e' : (if y.length ≤ sizeLine then some ((y.length : Int) != 0) else none) = some k := e
    split at e'
    · rename_i h
      cases e'
      exact ⟨h, rfl⟩
    · cases e'
  | tup ds =>
    rw [R] at r
    obtain ⟨a, vs, rfl, _, h, rl⟩ := r
    cases e
    exact .inr (.inl ⟨vs, .of h, by rw [rl.empty]⟩)
  | lst ds =>
    rw [R] at r
    obtain ⟨a, vs, rfl, _, h, rl⟩ := r
    cases e
    exact .inl ⟨vs, .of h, by rw [rl.empty]⟩
  | scr ds =>
    rw [R] at r
    obtain ⟨a, rfl, _, h⟩ := r
    cases e
    exact .inl ⟨_, .inl h, by cases ds <;> rfl⟩
  | ref n => cases e
  | fn x => cases e
theorem t_truth (ha : PE X a (tE X.K Wx ma)) (he : ∀ whole, isTrue a X.env whole = (do let v ← whole; standAt a.pos; holding [v] (truthy v)) := by intro _; rfl) : PT X a (tB X.K Wx (mTst truthD ma)) :=
  ptI (pt_truth ha he) fun σ H Q ⟨fr, w, P, env, h, F, q⟩ => one' F q fun d w2 h2 x H2 F2 r2 _ q2 => by
    cases e : truthD d with
    | none =>
      rw [e] at q2
      exact q2.elim
    | some k =>
      rw [e] at q2
      exact ⟨k, truth_ok r2 e, tX.fin F2 q2 rfl⟩
/-- a value that is a truth, as a test -/
def blD : D → Option Bool
  | .bl b => some b
  | _ => none

/-! ### whole numbers -/
def gI (f : Int → Int → D) : D → D → Option D
  | .int i, .int j => some (f i j)
  | _, _ => none
theorem s_i0 {K : PySem.W.Frag} {f : Int → Int → D} {g : Int → Int → V} (hf : ∀ i j w B H, R w B H (f i j) (g i j)) : S2 K (rI0 g) (gI f) := by
  intro Wx fr w P env h σ H a b x y Q F ra rb q
  cases a with
  | int i =>
    cases b with
    | int j =>
      rw [R] at ra rb
      exact ⟨i, j, ra, rb, tX.fin F q (hf _ _ _ _ _)⟩
    | _ => exact q.elim
  | _ => exact q.elim
def gIc (C : Int → Int → Bool) (f : Int → Int → D) : D → D → Option D
  | .int i, .int j => if C i j = true then some (f i j) else none
  | _, _ => none
theorem s_ic {K : PySem.W.Frag} {C : Int → Int → Prop} {c : Int → Int → Bool} {f : Int → Int → D} {g : Int → Int → V} (hc : ∀ i j, c i j = true → C i j) (hf : ∀ i j w B H, R w B H (f i j) (g i j)) : S2 K (rI C g) (gIc c f) := by
  intro Wx fr w P env h σ H a b x y Q F ra rb q
  cases a with
  | int i =>
    cases b with
    | int j =>
      rw [R] at ra rb
      unfold gIc at q
      dsimp only at q
      split at q
      · rename_i z
        exact ⟨i, j, ra, rb, hc _ _ z, tX.fin F q (hf _ _ _ _ _)⟩
      · exact q.elim
    | _ => exact q.elim
  | _ => exact q.elim
def gSub : D → D → Option D := gI fun i j => .int (i - j)
def gMod : D → D → Option D := gIc (fun _ j => decide (0 < j)) fun i j => .int (i % j)
def gFdiv : D → D → Option D := gIc (fun _ j => decide (0 < j ∧ j < 1073741824)) fun i j => .int (i / j)
def gPow : D → D → Option D := gIc (fun i j => decide (0 ≤ j ∧ j ≤ 1000000 ∧ i.natAbs < 2 ^ 64)) fun i j => .int (i ^ j.toNat)
def gNeg : D → Option D
  | .int i => some (.int (-i))
  | _ => none
theorem e_sub (ha : PE X a (tE X.K Wx ma)) (hb : PE X b (tE X.K Wx mb)) : PE X (.BinOp a .Sub b pos) (tE X.K Wx (mBin gSub ma mb)) := e_bin op_sub (s_i0 fun _ _ _ _ _ => by rw [R]) ha hb
theorem e_mod (ha : PE X a (tE X.K Wx ma)) (hb : PE X b (tE X.K Wx mb)) : PE X (.BinOp a .Mod b pos) (tE X.K Wx (mBin gMod ma mb)) := e_bin op_mod (s_ic (fun _ _ h => of_decide_eq_true h) fun _ _ _ _ _ => by rw [R]) ha hb
theorem e_fdiv (ha : PE X a (tE X.K Wx ma)) (hb : PE X b (tE X.K Wx mb)) : PE X (.BinOp a .FloorDiv b pos) (tE X.K Wx (mBin gFdiv ma mb)) := e_bin op_fdiv (s_ic (fun i j h => show 0 < j ∧ j < 1073741824 from of_decide_eq_true h) fun _ _ _ _ _ => by rw [R]) ha hb
theorem e_pow (ha : PE X a (tE X.K Wx ma)) (hb : PE X b (tE X.K Wx mb)) : PE X (.BinOp a .Pow b pos) (tE X.K Wx (mBin gPow ma mb)) := e_bin op_pow (s_ic (fun i j h => show 0 ≤ j ∧ j ≤ 1000000 ∧ i.natAbs < 2 ^ 64 from of_decide_eq_true h) fun _ _ _ _ _ => by rw [R]) ha hb
theorem e_neg (ha : PE X a (tE X.K Wx ma)) : PE X (.UnaryOp .USub a pos) (tE X.K Wx (mUn gNeg ma)) := e_un un_neg (by
  intro Wx fr w P env h σ H a x Q F ra q
  cases a with
  | int i =>
    rw [R] at ra
    exact ⟨i, ra, tX.fin F q (by rw [R])⟩
  | _ => exact q.elim) ha

/-! ### a new object -/
theorem RelF.laid {K : PySem.W.Frag} {fr : Fr} {w : Wd} {P : Addr → Prop} {env : Env'} {h : AH} {σ : L2.St} {H : Hp} (F : RelF K fr w P env h σ H) {p : Addr} {o : HO} (n : H p = none) : RelH K w (Bu fr.O P w) h (upd H p o) :=
  F.rh.keep (fun a o' e _ => by rw [upd_ne (ne_of_none e n)]; exact e) (Grow.laid n).keepB
theorem RelF.notB {K : PySem.W.Frag} {fr : Fr} {w : Wd} {P : Addr → Prop} {env : Env'} {h : AH} {σ : L2.St} {H : Hp} (F : RelF K fr w P env h σ H) {p : Addr} (n : H p = none) : ¬ Bu fr.O P w p := by
  rintro (z | z | z)
  · exact (F.ow z).1 n
  · exact (F.pp p z).2.1 n
  · exact F.rh.wi p z n
end
end Fx

namespace Fx
open PySem
open L2
/-! ### data as the library's data -/
mutual
def toPy : D → PyData
  | .non => .none
  | .bl b => .bool b
  | .int i => .int i
  | .str x => .str x
  | .tup ds => .tuple (toPyL ds)
  | .lst ds => .list (toPyL ds)
  | .scr ns => .list (ns.map .int)
  | .ref _ => .none
  | .fn _ => .none
def toPyL : List D → List PyData
  | [] => []
  | d :: ds => toPy d :: toPyL ds
end
mutual
/-- how deep; what is no plain data is too deep -/
def dpt : D → Nat
  | .non => 0
  | .bl _ => 0
  | .int _ => 0
  | .str x => if PyData.strOk x = true then 0 else 1000
  | .tup ds => dptL ds + 1
  | .lst ds => dptL ds + 1
  | .scr _ => 1000
  | .ref _ => 1000
  | .fn _ => 1000
def dptL : List D → Nat
  | [] => 0
  | d :: ds => max (dpt d) (dptL ds)
end
theorem toPyL_map (ds : List D) : toPyL ds = ds.map toPy := by
  induction ds with
  | nil => rw [toPyL]; rfl
  | cons d ds ih => rw [toPyL, ih]; rfl
theorem scr_lay : ∀ ns : List Int, PyData.canLayAll0 (ns.map .int) = true
  | [] => by simp [PyData.canLayAll0]
  | n :: ns => by simp [PyData.canLayAll0, PyData.canLay0, scr_lay ns]
theorem scr_dep : ∀ ns : List Int, PyData.depthAll (ns.map .int) = 0
  | [] => by simp [PyData.depthAll]
  | n :: ns => by simp [PyData.depthAll, PyData.depth, scr_dep ns]
mutual
theorem lay_of : ∀ d : D, dpt d ≤ 60 → (toPy d).canLay0 = true ∧ (toPy d).depth ≤ dpt d
  | .non, h => by simp [toPy, PyData.canLay0, PyData.depth]
  | .bl _, h => by simp [toPy, PyData.canLay0, PyData.depth]
  | .int _, h => by simp [toPy, PyData.canLay0, PyData.depth]
  | .str x, h => by
    rw [dpt] at h
    split at h
    · rename_i z
      simp [toPy, PyData.canLay0, PyData.depth, z]
    · omega
  | .tup ds, h => by
    rw [dpt] at h
    obtain ⟨a, b⟩ := lay_ofL ds (by omega)
    rw [toPy, dpt, PyData.canLay0, PyData.depth]
    exact ⟨a, by omega⟩
  | .lst ds, h => by
    rw [dpt] at h
    obtain ⟨a, b⟩ := lay_ofL ds (by omega)
    rw [toPy, dpt, PyData.canLay0, PyData.depth]
    exact ⟨a, by omega⟩
  | .scr ns, h => by rw [dpt] at h; omega
  | .ref _, h => by rw [dpt] at h; omega
  | .fn _, h => by rw [dpt] at h; omega
theorem lay_ofL : ∀ ds : List D, dptL ds ≤ 60 → PyData.canLayAll0 (toPyL ds) = true ∧ PyData.depthAll (toPyL ds) ≤ dptL ds
  | [], _ => by simp [toPyL, PyData.canLayAll0, PyData.depthAll]
  | d :: ds, h => by
    rw [dptL] at h
    obtain ⟨a, b⟩ := lay_of d (by omega)
    obtain ⟨a', b'⟩ := lay_ofL ds (by omega)
    rw [toPyL, dptL, PyData.canLayAll0, PyData.depthAll, a, a']
    exact ⟨rfl, by omega⟩
end
theorem shaped_of {d : D} (h : dpt d ≤ 60) : SeqAt.shaped (toPy d) = true := by
  obtain ⟨a, b⟩ := lay_of d h
  unfold SeqAt.shaped
  rw [a, decide_eq_true (by omega)]
  rfl
section
variable {K : PySem.W.Frag} {w : Wd} {B : Bz} {H : Hp}
theorem scr_dp : ∀ ns : List Int, DpAll K H (ns.map V.int) (ns.map PyData.int)
  | [] => .nil
  | n :: ns => .cons (.int n) (scr_dp ns)
mutual
theorem dp_of : ∀ (d : D) (v : V), R w B H d v → dpt d ≤ 60 → Dp K H v (toPy d)
  | .non, v, r, h => by rw [R] at r; rw [r, toPy]; exact .non
  | .bl b, v, r, h => by rw [R] at r; rw [r, toPy]; exact .bl b
  | .int i, v, r, h => by rw [R] at r; rw [r, toPy]; exact .int i
  | .str x, v, r, h => by rw [R] at r; rw [r, toPy]; exact .str x
  | .tup ds, v, r, h => by
    rw [R] at r
    rw [dpt] at h
    obtain ⟨a, vs, rfl, _, e, rl⟩ := r
    rw [toPy]
    exact .tup (.of e) (dp_ofL ds vs rl (by omega))
  | .lst ds, v, r, h => by
    rw [R] at r
    rw [dpt] at h
    obtain ⟨a, vs, rfl, _, e, rl⟩ := r
    rw [toPy]
    exact .lst (.of e) (dp_ofL ds vs rl (by omega))
  | .scr ns, v, r, h => by rw [dpt] at h; omega
  | .ref _, v, r, h => by rw [dpt] at h; omega
  | .fn _, v, r, h => by rw [dpt] at h; omega
theorem dp_ofL : ∀ (ds : List D) (vs : List V), RL w B H ds vs → dptL ds ≤ 60 → DpAll K H vs (toPyL ds)
  | [], vs, r, h => by rw [RL] at r; rw [r, toPyL]; exact .nil
  | d :: ds, vs, r, h => by
    rw [RL] at r
    rw [dptL] at h
    obtain ⟨v, t, rfl, r1, r2⟩ := r
    rw [toPyL]
    exact .cons (dp_of d v r1 (by omega)) (dp_ofL ds t r2 (by omega))
end
end
mutual
theorem toPy_inj : ∀ a b : D, dpt a ≤ 60 → dpt b ≤ 60 → toPy a = toPy b → a = b
  | .non, b, h, h', e => by cases b <;> simp_all [toPy, dpt]
  | .bl x, b, h, h', e => by cases b <;> simp_all [toPy, dpt]
  | .int x, b, h, h', e => by cases b <;> simp_all [toPy, dpt]
  | .str x, b, h, h', e => by cases b <;> simp_all [toPy, dpt]
  | .tup xs, b, h, h', e => by
    cases b with
    | tup ys =>
      rw [dpt] at h h'
      rw [toPy, toPy] at e
      injection e with e
      rw [toPyL_inj xs ys (by omega) (by omega) e]
    | ref _ => rw [dpt] at h'; omega
    | fn _ => rw [dpt] at h'; omega
    | scr _ => rw [dpt] at h'; omega
    | _ => rw [toPy, toPy] at e; cases e
  | .lst xs, b, h, h', e => by
    cases b with
    | lst ys =>
      rw [dpt] at h h'
      rw [toPy, toPy] at e
      injection e with e
      rw [toPyL_inj xs ys (by omega) (by omega) e]
    | ref _ => rw [dpt] at h'; omega
    | fn _ => rw [dpt] at h'; omega
    | scr _ => rw [dpt] at h'; omega
    | _ => rw [toPy, toPy] at e; cases e
  | .scr _, b, h, h', e => by rw [dpt] at h; omega
  | .ref _, b, h, h', e => by rw [dpt] at h; omega
  | .fn _, b, h, h', e => by rw [dpt] at h; omega
theorem toPyL_inj : ∀ xs ys : List D, dptL xs ≤ 60 → dptL ys ≤ 60 → toPyL xs = toPyL ys → xs = ys
  | [], [], _, _, _ => rfl
  | [], _ :: _, _, _, e => by rw [toPyL, toPyL] at e; cases e
  | _ :: _, [], _, _, e => by rw [toPyL, toPyL] at e; cases e
  | x :: xs, y :: ys, h, h', e => by
    rw [dptL] at h h'
    rw [toPyL, toPyL] at e
    injection e with e1 e2
    rw [toPy_inj x y (by omega) (by omega) e1, toPyL_inj xs ys (by omega) (by omega) e2]
end
/-! ### == -/
def eqD (a b : D) : Bool := PyData.eqv (toPy a) (toPy b)
def gEq (a b : D) : Option Bool := if dpt a ≤ 60 ∧ dpt b ≤ 60 then some (eqD a b) else none
def gNe (a b : D) : Option Bool := if dpt a ≤ 60 ∧ dpt b ≤ 60 then some (!eqD a b) else none
theorem sb_eq {K : PySem.W.Frag} : SB K (rEqD K) gEq := by
  intro w B H a b x y k Q ra rb e q
  unfold gEq at e
  split at e
  · rename_i h
    cases e
    exact ⟨_, _, dp_of a x ra h.1, dp_of b y rb h.2, shaped_of h.1, shaped_of h.2, q⟩
  · cases e
theorem sb_ne {K : PySem.W.Frag} : SB K (rNeD K) gNe := by
  intro w B H a b x y k Q ra rb e q
  unfold gNe at e
  split at e
  · rename_i h
    cases e
    exact ⟨_, _, dp_of a x ra h.1, dp_of b y rb h.2, shaped_of h.1, shaped_of h.2, q⟩
  · cases e
/-! ### order of whole numbers -/
def gCi (f : Int → Int → Bool) : D → D → Option Bool
  | .int i, .int j => some (f i j)
  | _, _ => none
theorem sb_ci {K : PySem.W.Frag} {f : Int → Int → Bool} : SB K (rI0 fun i j => .bl (f i j)) (gCi f) := by
  intro w B H a b x y k Q ra rb e q
  cases a with
  | int i =>
    cases b with
    | int j =>
      rw [R] at ra rb
      cases e
      exact ⟨i, j, ra, rb, q⟩
    | _ => cases e
  | _ => cases e
def gLt : D → D → Option Bool := gCi fun i j => decide (i < j)
def gLe : D → D → Option Bool := gCi fun i j => decide (i ≤ j)
def gGt : D → D → Option Bool := gCi fun i j => decide (j < i)
def gGe : D → D → Option Bool := gCi fun i j => decide (j ≤ i)
/-- is None, is not None; is, is not, of truths -/
def isNonD : D → Bool
  | .non => true
  | _ => false
def gIsN (a b : D) : Option Bool := match b with
  | .non => some (isNonD a)
  | _ => none
def gNotN (a b : D) : Option Bool := (gIsN a b).map (!·)
theorem isN_of {w : Wd} {B : Bz} {H : Hp} {a : D} {x : V} (r : R w B H a x) : decide (x = .non) = isNonD a := by
  cases a with
  | non => rw [R] at r; rw [r]; rfl
  | bl b => rw [R] at r; rw [r]; rfl
  | int b => rw [R] at r; rw [r]; rfl
  | str b => rw [R] at r; rw [r]; rfl
  | tup b => rw [R] at r; obtain ⟨_, _, rfl, _⟩ := r; rfl
  | lst b => rw [R] at r; obtain ⟨_, _, rfl, _⟩ := r; rfl
  | scr b => rw [R] at r; obtain ⟨_, rfl, _⟩ := r; rfl
  | ref b => rw [R] at r; obtain ⟨_, rfl, _⟩ := r; rfl
  | fn b => rw [R] at r; exact r.elim
theorem sb_isN {K : PySem.W.Frag} : SB K (fun x y H Q => y = .non ∧ Q (.bl (decide (x = .non))) H) gIsN := by
  intro w B H a b x y k Q ra rb e q
  cases b with
  | non =>
    rw [R] at rb
    cases e
    exact ⟨rb, by rw [isN_of ra]; exact q⟩
  | _ => cases e
theorem sb_notN {K : PySem.W.Frag} : SB K (fun x y H Q => y = .non ∧ Q (.bl (!decide (x = .non))) H) gNotN := by
  intro w B H a b x y k Q ra rb e q
  cases b with
  | non =>
    rw [R] at rb
    cases e
    exact ⟨rb, by rw [isN_of ra]; exact q⟩
  | _ => cases e
def gIsB : D → D → Option Bool
  | .bl a, .bl b => some (decide (a = b))
  | _, _ => none
def gNotB : D → D → Option Bool
  | .bl a, .bl b => some (!decide (a = b))
  | _, _ => none
theorem sb_isB {K : PySem.W.Frag} : SB K rIsB gIsB := by
  intro w B H a b x y k Q ra rb e q
  cases a with
  | bl i =>
    cases b with
    | bl j =>
      rw [R] at ra rb
      cases e
      exact ⟨i, j, ra, rb, q⟩
    | _ => cases e
  | _ => cases e
theorem sb_notB {K : PySem.W.Frag} : SB K rNotB gNotB := by
  intro w B H a b x y k Q ra rb e q
  cases a with
  | bl i =>
    cases b with
    | bl j =>
      rw [R] at ra rb
      cases e
      exact ⟨i, j, ra, rb, q⟩
    | _ => cases e
  | _ => cases e
/-! ### sequences that are read -/
/-- a tuple (true) or a list, its items -/
abbrev Sq := Bool × List D
def RQ : RR Sq V := fun w B H q v => ∃ p vs, v = .ref p ∧ ¬ w.W p ∧ ((q.1 = false ∧ Rd H p (.lst vs)) ∨ (q.1 = true ∧ H p = some (.tup vs))) ∧ RL w B H q.2 vs
abbrev tQ (K : PySem.W.Frag) (Wx : WX) (m : M Sq) : TE := tG RQ K Wx m
def sqOf : D → Option Sq
  | .tup ds => some (true, ds)
  | .lst ds => some (false, ds)
  | .scr ns => some (false, ns.map .int)
  | _ => none
theorem RL.ints {w : Wd} {B : Bz} {H : Hp} : ∀ ns : List Int, RL w B H (ns.map .int) (ns.map V.int)
  | [] => by rw [List.map_nil, RL]; rfl
  | n :: ns => by
    rw [List.map_cons, RL]
    exact ⟨.int n, _, rfl, by rw [R], RL.ints ns⟩
theorem sq_of' {w : Wd} {B : Bz} {H : Hp} {d : D} {v : V} {q : Sq} (hb : ∀ a, w.W a → B a) (r : R w B H d v) (e : sqOf d = some q) : RQ w B H q v := by
  cases d with
  | tup ds =>
    rw [R] at r
    obtain ⟨a, vs, rfl, nb, h, rl⟩ := r
    cases e
    exact ⟨a, vs, rfl, fun z => nb (hb a z), .inr ⟨rfl, h⟩, rl⟩
  | lst ds =>
    rw [R] at r
    obtain ⟨a, vs, rfl, nb, h, rl⟩ := r
    cases e
    exact ⟨a, vs, rfl, fun z => nb (hb a z), .inl ⟨rfl, .inl h⟩, rl⟩
  | scr ns =>
    rw [R] at r
    obtain ⟨a, rfl, nb, h⟩ := r
    cases e
    exact ⟨a, _, rfl, fun z => nb (hb a z), .inl ⟨rfl, h⟩, RL.ints ns⟩
  | _ => cases e
theorem RQ.sq {K : PySem.W.Frag} {H : Hp} {q : Sq} {p : Addr} {vs : List V} (h : (q.1 = false ∧ Rd H p (.lst vs)) ∨ (q.1 = true ∧ H p = some (.tup vs))) : SqL K H p vs ∨ SqT K H p vs := by
  rcases h with ⟨_, h⟩ | ⟨_, h⟩
  · exact .inl (.inl h)
  · exact .inr (.of h)
def mSq (a : M D) : M Sq := fun env h => bnd (a env h) fun x h => lift (sqOf x) h
def mOwn (i : Nat) : M Sq := fun env h => match env[i]? with
  | some (.own ds) => .ok (false, ds) h
  | _ => .stuck
def mQ {α : Type} (g : Sq → Option α) (a : M Sq) : M α := fun env h => bnd (a env h) fun x h => lift (g x) h
def mQ2 {α : Type} (g : Sq → D → Option α) (a : M Sq) (b : M D) : M α := fun env h => bnd (a env h) fun x h => bnd (b env h) fun y h => lift (g x y) h
def m2Q {α : Type} (g : D → Sq → Option α) (a : M D) (b : M Sq) : M α := fun env h => bnd (a env h) fun x h => bnd (b env h) fun y h => lift (g x y) h
def mCallQ {α : Type} (g : Sq → AH → Res α) (a : M Sq) : M α := fun env h => bnd (a env h) g
theorem RQ.grow {w w' : Wd} {H H' : Hp} {O P : Addr → Prop} {q : Sq} {v : V} (g : Grow w H w' H') (r : RQ w (Bu O P w) H q v) : RQ w' (Bu O P w') H' q v := by
  obtain ⟨a, vs, e, n, h, rl⟩ := r
  have n' : ∀ o, H a = some o → ¬ w'.W a := fun o h z => (g.new a z).elim n fun z => by rw [h] at z; cases z
  rcases h with ⟨z, h | ⟨o, h⟩⟩ | ⟨z, h⟩
  · exact ⟨a, vs, e, n' _ h, .inl ⟨z, .inl (g.keep _ _ h n)⟩, RL.keep g.rho g.keepB _ _ rl⟩
  · exact ⟨a, vs, e, n' _ h, .inl ⟨z, .inr ⟨o, g.keep _ _ h n⟩⟩, RL.keep g.rho g.keepB _ _ rl⟩
  · exact ⟨a, vs, e, n' _ h, .inr ⟨z, g.keep _ _ h n⟩, RL.keep g.rho g.keepB _ _ rl⟩
section
variable {X : Cx} {Wx : WX} {a b c e : Expr} {es : List Expr} {pos : Pos} {ma mb mc : M D} {mt mu : M Bool} {mr : M (List D)} {mq : M Sq}
theorem q_val (ha : PE X a (tE X.K Wx ma)) : PE X a (tQ X.K Wx (mSq ma)) :=
  peI ha fun σ H Q ⟨fr, w, P, env, h, F, q⟩ => one' F q fun d w2 h2 x H2 F2 r2 _ q2 => by
    cases e : sqOf d with
    | none =>
      rw [e] at q2
      exact q2.elim
    | some k =>
      rw [e] at q2
      exact tX.fin F2 q2 (sq_of' (fun _ z => .inr (.inr z)) r2 e)
theorem q_own (i : Nat) {x : Str} {pos : Pos} (hN : X.N[i]? = some x := by rfl) (hv : Vis X.env.scope x := by first | exact Or.inl rfl | exact Or.inr (Or.inl rfl) | exact Or.inr (Or.inr rfl)) (hd : (x == ("__debug__" : Str)) = false := by decide)
    (hcd : (x == ("__classdict__" : Str)) = false := by decide) : PE X (.Name x pos) (tQ X.K Wx (mOwn i)) := by
  refine peI (pe_var hN hv hd hcd) fun σ H Q ⟨fr, w, P, env, h, F, q⟩ => ?_
  unfold mOwn at q
  split at q
  · rename_i ds e
    obtain ⟨p, vs, e1, pp, e2, r⟩ := F.sl i _ e
    exact ⟨_, e1, tX.fin F q ⟨p, vs, rfl, (F.pp p pp).2.2, .inl ⟨rfl, .inl e2⟩, r⟩⟩
  · exact q.elim
/-- a built-in's call on one sequence, by data -/
def SQ (K : PySem.W.Frag) (r : List V → Hp → VK → Prop) (g : Sq → Option D) : Prop := ∀ (Wx : WX) fr w P env h σ H q x Q, RelF K fr w P env h σ H → RQ w (Bu fr.O P w) H q x → tX R K Wx fr w P σ H (lift (g q) h) Q → r [x] H Q
theorem e_fnQ {x : Str} {p : Pos} {id : String} {r : List V → Hp → VK → Prop} {g : Sq → Option D} (hc : CallR X (.builtin id) r) (hs : SQ X.K r g) (hm : X.mg x = none) (hv : bootBuiltins x = some (.builtin id)) (ha : PE X e (tQ X.K Wx mq)) (hg : Gl X x := by rfl)
    (hn : x ≠ "__name__" := by decide) (hdb : (x == ("__debug__" : Str)) = false := by decide) (he : starEach (e :: []) X.env = (false, eval e X.env) :: starEach [] X.env := by rfl) (hpl : (backTo pos (starEach [] X.env)).any (·.1) = false := by rfl) :
    PE X (.Call (.Name x p) [e] [] pos) (tE X.K Wx (mQ g mq)) :=
  peI (pe_callB hc hg hm hv (pa_cons ha pa_nil he) hn hdb he hpl) fun σ H Q ⟨fr, w, P, env, h, F, q⟩ => one' F q fun d w2 h2 x H2 F2 r2 _ q2 => hs Wx fr w2 P env h2 σ H2 d x Q F2 r2 q2
theorem e_tyQ {x : Str} {p : Pos} {T : String} {r : List V → Hp → VK → Prop} {g : Sq → Option D} (hc : CallR X (.type T) r) (hs : SQ X.K r g) (hm : X.mg x = none) (hv : bootBuiltins x = some (.type T)) (ha : PE X e (tQ X.K Wx mq)) (hg : Gl X x := by rfl)
    (hn : x ≠ "__name__" := by decide) (hdb : (x == ("__debug__" : Str)) = false := by decide) (he : starEach (e :: []) X.env = (false, eval e X.env) :: starEach [] X.env := by rfl) (hpl : (backTo pos (starEach [] X.env)).any (·.1) = false := by rfl) :
    PE X (.Call (.Name x p) [e] [] pos) (tE X.K Wx (mQ g mq)) :=
  peI (pe_callTy hc hg hm hv (pa_cons ha pa_nil he) hn hdb he hpl) fun σ H Q ⟨fr, w, P, env, h, F, q⟩ => one' F q fun d w2 h2 x H2 F2 r2 _ q2 => hs Wx fr w2 P env h2 σ H2 d x Q F2 r2 q2
/-- len -/
def qLen (q : Sq) : Option D := some (.int (q.2.length : Nat))
theorem sq_len {K : PySem.W.Frag} : SQ K (fun xs H Q => ∃ p ys, xs = [.ref p] ∧ (SqL K H p ys ∨ SqT K H p ys) ∧ Q (.int ys.length) H) qLen := by
  intro Wx fr w P env h σ H q x Q F r t
  obtain ⟨p, vs, rfl, _, hs, rl⟩ := r
  refine ⟨p, vs, rfl, RQ.sq hs, ?_⟩
  rw [rl.len]
  exact tX.fin F t (by rw [R])
/-- sum of whole numbers in a list -/
def intsOf : List D → Option (List Int)
  | [] => some []
  | .int i :: r => (intsOf r).map (i :: ·)
  | _ => none
theorem ints_ok {w : Wd} {B : Bz} {H : Hp} : ∀ {ds : List D} {vs : List V} {ns : List Int}, RL w B H ds vs → intsOf ds = some ns → vs = ns.map V.int
  | [], vs, ns, r, e => by rw [RL] at r; cases e; exact r
  | d :: ds, vs, ns, r, e => by
    rw [RL] at r
    obtain ⟨v, t, rfl, r1, r2⟩ := r
    cases d with
    | int i =>
      rw [R] at r1
      unfold intsOf at e
      cases e2 : intsOf ds with
      | none => rw [e2] at e; cases e
      | some ms =>
        rw [e2] at e
        cases e
        rw [r1, ints_ok r2 e2]
        rfl
    | _ => cases e
theorem intsOf_map (ns : List Int) : intsOf (ns.map .int) = some ns := by
  induction ns with
  | nil => rfl
  | cons n ns ih => rw [List.map_cons, intsOf, ih]; rfl
def qSum (q : Sq) : Option D := if q.1 = false then (intsOf q.2).map fun ns => .int ns.sum else none
theorem sq_sum {K : PySem.W.Frag} : SQ K (rSum K) qSum := by
  intro Wx fr w P env h σ H q x Q F r t
  obtain ⟨p, vs, rfl, _, hs, rl⟩ := r
  obtain ⟨b, ds⟩ := q
  cases b with
  | true => exact t.elim
  | false =>
    unfold qSum at t
    dsimp only at t
    rw [if_pos rfl] at t
    cases e : intsOf ds with
    | none => rw [e] at t; exact t.elim
    | some ns =>
      rw [e] at t
      have ev := ints_ok rl e
      subst ev
      rcases hs with ⟨_, hs⟩ | ⟨z, _⟩
      · exact ⟨p, ns, rfl, .inl hs, tX.fin F t (by rw [R])⟩
      · cases z
/-! ### subscripts -/
def atL : List D → Int → Option D := atI
theorem at_ok {w : Wd} {B : Bz} {H : Hp} : ∀ {ds : List D} {vs : List V} (j : Nat) {d : D}, RL w B H ds vs → ds[j]? = some d → ∃ v, vs[j]? = some v ∧ R w B H d v
  | [], vs, j, d, r, e => by simp at e
  | c :: ds, vs, j, d, r, e => by
    rw [RL] at r
    obtain ⟨v, t, rfl, r1, r2⟩ := r
    cases j with
    | zero =>
      have e' : c = d := by simpa using e
      subst e'
      exact ⟨v, rfl, r1⟩
    | succ j =>
      obtain ⟨u, q1, q2⟩ := at_ok (ds := ds) (vs := t) j r2 (by simpa using e)
      exact ⟨u, by simpa using q1, q2⟩
theorem atI_ok {w : Wd} {B : Bz} {H : Hp} {ds : List D} {vs : List V} {i : Int} {d : D} (r : RL w B H ds vs) (e : atI ds i = some d) : ∃ v, atI vs i = some v ∧ R w B H d v := by
  unfold atI at e ⊢
  rw [r.len]
  cases q : ixN ds.length i with
  | none => rw [q] at e; cases e
  | some j =>
    rw [q] at e
    exact at_ok j r e
def qAt (q : Sq) : D → Option D
  | .int i => atI q.2 i
  | _ => none
theorem e_at (ha : PE X a (tQ X.K Wx mq)) (hb : PE X b (tE X.K Wx mb)) (hs : PlainIx b := by intro _ _; rfl) : PE X (.Subscript a b pos) (tE X.K Wx (mQ2 qAt mq mb)) :=
  peI (pe_ix ix_seq ha hb hs) fun σ H Q ⟨fr, w, P, env, h, F, q⟩ => one' F q fun qq w1 h1 x H1 F1 r1 _ q1 => one' F1 q1 fun d w2 h2 y H2 F2 r2 g2 q2 => by
    obtain ⟨p, vs, rfl, _, hs, rl⟩ := r1.grow g2
    cases d with
    | int i =>
      rw [R] at r2
      subst r2
      cases e : atI qq.2 i with
      | none =>
        rw [show qAt qq (.int i) = none from e] at q2
        exact q2.elim
      | some d =>
        rw [show qAt qq (.int i) = some d from e] at q2
        obtain ⟨v, e1, r3⟩ := atI_ok rl e
        rcases hs with ⟨_, hs⟩ | ⟨_, hs⟩
        · exact .inl ⟨p, vs, i, v, rfl, rfl, .inl hs, e1, tX.fin F2 q2 r3⟩
        · exact .inr (.inl ⟨p, vs, i, v, rfl, rfl, .of hs, e1, tX.fin F2 q2 r3⟩)
    | _ => exact q2.elim
end
end Fx

namespace Fx
open PySem
open L2
/-! ### new lists -/
def tLx (K : PySem.W.Frag) (Wx : WX) (fr : Fr) (w : Wd) (P : Addr → Prop) (σ : L2.St) (H : Hp) (r : Res (List D)) (Q : VK) : Prop := match r with
  | .ok ds h' => ∀ w' p vs H', Grow w H w' H' → RelH K w' (Bu fr.O (fun a => P a ∨ a = p) w') h' H' → H p = none → H' p = some (.lst vs) → ¬ w'.W p → RL w' (Bu fr.O (fun a => P a ∨ a = p) w') H' ds vs → Q (.ref p) H'
  | .exc c h' => ∀ w' H', Grow w H w' H' → RelH K w' (Bu fr.O P w') h' H' → Wx (.ref (He.ga K c.name)) none σ H'
  | .stuck => False
def tL (K : PySem.W.Frag) (Wx : WX) (m : M (List D)) : TE := fun σ H Q => ∃ fr w P env h, RelF K fr w P env h σ H ∧ tLx K Wx fr w P σ H (m env h) Q
section
variable {K : PySem.W.Frag} {Wx : WX} {fr : Fr} {w w1 : Wd} {P : Addr → Prop} {env : Env'} {h h1 : AH} {σ : L2.St} {H H1 : Hp} {α β : Type} {Rα : RR α β}
theorem tLx.grow {r : Res (List D)} {Q : VK} (g : Grow w H w1 H1) (x : tLx K Wx fr w P σ H r Q) : tLx K Wx fr w1 P σ H1 r Q := by
  cases r with
  | ok a h' => exact fun w' p vs H' g' rh n e nb ra => x w' p vs H' (g.trans g') rh (g.all p n) e nb ra
  | exc c h' => exact fun w' H' g' rh => x w' H' (g.trans g') rh
  | stuck => exact x
theorem tLx.bnd {r : Res α} {k : α → AH → Res (List D)} {Q : VK} (F : RelF K fr w P env h σ H) (x : tLx K Wx fr w P σ H (bnd r k) Q) :
    tX Rα K Wx fr w P σ H r (fun b H1 => ∃ a w1 h1, RelF K fr w1 P env h1 σ H1 ∧ Rα w1 (Bu fr.O P w1) H1 a b ∧ Grow w H w1 H1 ∧ tLx K Wx fr w1 P σ H1 (k a h1) Q) := by
  cases r with
  | ok a h' => exact fun w' b H' g rh ra => ⟨a, w', h', F.grow g rh, ra, g, tLx.grow g x⟩
  | exc c h' => exact x
  | stuck => exact x
theorem RL.laid {p : Addr} {o : HO} {ds : List D} {vs : List V} (n : H p = none) (r : RL w (Bu fr.O P w) H ds vs) : RL w (Bu fr.O P w) (upd H p o) ds vs := RL.keep .refl (Grow.laid n).keepB ds vs r
/-- the list has come at p -/
theorem keepN {p : Addr} {o : HO} (n : H p = none) : Keep (Bu fr.O P w) H (Bu fr.O (fun a => P a ∨ a = p) w) (upd H p o) := fun a o' h b => by
  have ne : a ≠ p := ne_of_none h n
  refine ⟨by rw [upd_ne ne]; exact h, ?_⟩
  rintro (z | (z | z) | z)
  · exact b (.inl z)
  · exact b (.inr (.inl z))
  · exact ne z
  · exact b (.inr (.inr z))
theorem Keep.sub {B B' : Bz} (i : ∀ a, B' a → B a) : Keep B H B' H := fun a o h b => ⟨h, fun z => b (i a z)⟩
theorem RelF.laidN {p : Addr} {o : HO} (F : RelF K fr w P env h σ H) (n : H p = none) : RelH K w (Bu fr.O (fun a => P a ∨ a = p) w) h (upd H p o) :=
  F.rh.keep (fun a o' e _ => by rw [upd_ne (ne_of_none e n)]; exact e) (keepN n)
theorem tLx.fin {ds : List D} {vs : List V} {p : Addr} {Q : VK} (F : RelF K fr w P env h σ H) (x : tLx K Wx fr w P σ H (.ok ds h) Q) (n : H p = none) (r : RL w (Bu fr.O P w) H ds vs) : Q (.ref p) (upd H p (.lst vs)) :=
  x w p vs _ (Grow.laid n) (F.laidN n) n upd_same (fun z => F.rh.wi p z n) (RL.keep .refl (keepN n) ds vs r)
end
/-- a new list that is not changed any more -/
def mLst (m : M (List D)) : M D := fun env h => bnd (m env h) fun ds h => .ok (.lst ds) h
/-- a new tuple -/
theorem tup_fin {K : PySem.W.Frag} {Wx : WX} {fr : Fr} {w : Wd} {P : Addr → Prop} {env : Env'} {h : AH} {σ : L2.St} {H : Hp} {ds : List D} {vs : List V} {p : Addr} {Q : VK} (F : RelF K fr w P env h σ H) (x : tX R K Wx fr w P σ H (.ok (.tup ds) h) Q) (n : H p = none)
    (r : RL w (Bu fr.O P w) H ds vs) : Q (.ref p) (upd H p (.tup vs)) :=
  x w (.ref p) _ (Grow.laid n) (F.laid n) (by rw [R]; exact ⟨p, vs, rfl, F.notB n, upd_same, r.laid n⟩)
section
variable {X : Cx} {Wx : WX} {a b c e : Expr} {es : List Expr} {pos : Pos} {ma mb mc : M D} {mt mu : M Bool} {mr ml : M (List D)} {mq mp : M Sq}
theorem oneL {α β : Type} {Rα : RR α β} {ta : M α} {fr : Fr} {w : Wd} {P : Addr → Prop} {env : Env'} {h : AH} {σ : L2.St} {H : Hp} {k : α → AH → Res (List D)} {Q : VK} {G : β → Hp → Prop}
    (F : RelF X.K fr w P env h σ H) (q : tLx X.K Wx fr w P σ H (bnd (ta env h) k) Q)
    (hk : ∀ d w2 h2 x H2, RelF X.K fr w2 P env h2 σ H2 → Rα w2 (Bu fr.O P w2) H2 d x → Grow w H w2 H2 → tLx X.K Wx fr w2 P σ H2 (k d h2) Q → G x H2) : tG Rα X.K Wx ta σ H G :=
  ⟨fr, w, P, env, h, F, (tLx.bnd (Rα := Rα) F q).imp fun x H1 ⟨d, w1, h1, F1, r1, g1, q1⟩ => hk d w1 h1 x H1 F1 r1 g1 q1⟩
theorem e_lst (ha : PE X a (tL X.K Wx ml)) : PE X a (tE X.K Wx (mLst ml)) :=
  peI ha fun σ H Q ⟨fr, w, P, env, h, F, q⟩ => ⟨fr, w, P, env, h, F, by
    unfold mLst at q
    revert q
    cases ml env h with
    | ok ds h' =>
      intro q w' p vs H' g rh n e nw rl
      have sb : ∀ a, Bu fr.O P w' a → Bu fr.O (fun a => P a ∨ a = p) w' a := fun a z => z.elim .inl fun z => z.elim (fun z => .inr (.inl (.inl z))) fun z => .inr (.inr z)
      refine q w' (.ref p) H' g (rh.keep (fun _ _ e _ => e) (Keep.sub sb)) ?_
      rw [R]
      refine ⟨p, vs, rfl, ?_, e, RL.keep .refl (Keep.sub sb) _ _ rl⟩
      rintro (z | z | z)
      · exact (F.ow z).1 n
      · exact (F.pp p z).2.1 n
      · exact nw z
    | exc c h' => exact id
    | stuck => exact id⟩
/-- [a, b, ..] -/
def mDisp (m : M (List D)) : M (List D) := fun env h => bnd (m env h) fun ds h => lift (if ds.length ≤ 1000 then some ds else none) h
theorem le_line {n : Nat} (h : n ≤ 1000) : n ≤ sizeLine := Nat.le_trans h (by decide)
theorem l_disp (h : PA X es (tA X.K Wx mr)) : PE X (.List es pos) (tL X.K Wx (mDisp mr)) :=
  peI (pe_lst h) fun σ H Q ⟨fr, w, P, env, h, F, q⟩ => oneL F q fun ds w2 h2 xs H2 F2 r2 _ q2 => by
    split at q2
    · rename_i z
      exact ⟨le_line (by rw [r2.len]; exact z), fun p n => tLx.fin F2 q2 n r2⟩
    · exact q2.elim
/-- (a, b, ..) -/
def mTup (m : M (List D)) : M D := fun env h => bnd (m env h) fun ds h => lift (if ds.length ≤ 1000 then some (.tup ds) else none) h
theorem e_tup {x1} (h : PA X es (tA X.K Wx mr)) : PE X (.Tuple es x1 pos) (tE X.K Wx (mTup mr)) :=
  peI (pe_tup h) fun σ H Q ⟨fr, w, P, env, h, F, q⟩ => one' F q fun ds w2 h2 xs H2 F2 r2 _ q2 => by
    split at q2
    · rename_i z
      exact ⟨le_line (by rw [r2.len]; exact z), fun p n => tup_fin F2 q2 n r2⟩
    · exact q2.elim
/-! ### lists to lists -/
theorem RL.append {w : Wd} {B : Bz} {H : Hp} : ∀ {ds es : List D} {vs us : List V}, RL w B H ds vs → RL w B H es us → RL w B H (ds ++ es) (vs ++ us)
  | [], es, vs, us, r, s => by rw [RL] at r; rw [r]; exact s
  | d :: ds, es, vs, us, r, s => by
    rw [RL] at r
    obtain ⟨v, t, rfl, r1, r2⟩ := r
    rw [List.cons_append, RL]
    exact ⟨v, t ++ us, rfl, r1, RL.append r2 s⟩
theorem RL.drop {w : Wd} {B : Bz} {H : Hp} : ∀ (n : Nat) {ds : List D} {vs : List V}, RL w B H ds vs → RL w B H (ds.drop n) (vs.drop n)
  | 0, _, _, r => r
  | n + 1, [], vs, r => by
    rw [RL] at r
    subst r
    rw [List.drop_nil, List.drop_nil, RL]
  | n + 1, d :: ds, vs, r => by
    rw [RL] at r
    obtain ⟨v, t, rfl, _, r2⟩ := r
    exact RL.drop n r2
theorem RL.take {w : Wd} {B : Bz} {H : Hp} : ∀ (n : Nat) {ds : List D} {vs : List V}, RL w B H ds vs → RL w B H (ds.take n) (vs.take n)
  | 0, _, _, r => by rw [List.take_zero, List.take_zero, RL]
  | n + 1, [], vs, r => by
    rw [RL] at r
    subst r
    rw [List.take_nil, List.take_nil, RL]
  | n + 1, d :: ds, vs, r => by
    rw [RL] at r
    obtain ⟨v, t, rfl, r1, r2⟩ := r
    rw [List.take_succ_cons, List.take_succ_cons, RL]
    exact ⟨v, _, rfl, r1, RL.take n r2⟩
theorem RL.reps {w : Wd} {B : Bz} {H : Hp} {ds : List D} {vs : List V} (r : RL w B H ds vs) : ∀ k : Nat, RL w B H (List.replicate k ds).flatten (List.replicate k vs).flatten
  | 0 => by rw [List.replicate_zero, List.replicate_zero, List.flatten_nil, List.flatten_nil, RL]
  | k + 1 => by
    rw [List.replicate_succ, List.replicate_succ, List.flatten_cons, List.flatten_cons]
    exact r.append (r.reps k)
theorem RL.rev {w : Wd} {B : Bz} {H : Hp} : ∀ {ds : List D} {vs : List V}, RL w B H ds vs → RL w B H ds.reverse vs.reverse
  | [], vs, r => by
    rw [RL] at r
    subst r
    rw [List.reverse_nil, List.reverse_nil, RL]
  | d :: ds, vs, r => by
    rw [RL] at r
    obtain ⟨v, t, rfl, r1, r2⟩ := r
    rw [List.reverse_cons, List.reverse_cons]
    refine (RL.rev r2).append ?_
    rw [RL]
    exact ⟨v, [], rfl, r1, by rw [RL]⟩
/-! ### + -/
def gAdd : D → D → Option D
  | .int i, .int j => some (.int (i + j))
  | .tup xs, .tup ys => if xs.length + ys.length ≤ sizeLine then some (.tup (xs ++ ys)) else none
  | .lst xs, .lst ys => if xs.length + ys.length ≤ sizeLine then some (.lst (xs ++ ys)) else none
  | .str x, .str y => if x.length + y.length ≤ sizeLine then some (.str (x ++ y)) else none
  | _, _ => none
def rAddA (K : PySem.W.Frag) : R2 := fun x y H Q => ((rI0 (fun i j => .int (i + j)) x y H Q ∨ rCatA K x y H Q) ∨ rCat x y H Q) ∨ (∃ i j, x = .str i ∧ y = .str j ∧ i.length + j.length ≤ sizeLine ∧ Q (.str (i ++ j)) H)
theorem lst_fin {K : PySem.W.Frag} {Wx : WX} {fr : Fr} {w : Wd} {P : Addr → Prop} {env : Env'} {h : AH} {σ : L2.St} {H : Hp} {ds : List D} {vs : List V} {p : Addr} {Q : VK} (F : RelF K fr w P env h σ H) (x : tX R K Wx fr w P σ H (.ok (.lst ds) h) Q) (n : H p = none)
    (r : RL w (Bu fr.O P w) H ds vs) : Q (.ref p) (upd H p (.lst vs)) :=
  x w (.ref p) _ (Grow.laid n) (F.laid n) (by rw [R]; exact ⟨p, vs, rfl, F.notB n, upd_same, r.laid n⟩)
theorem s_add {K : PySem.W.Frag} : S2 K (rAddA K) gAdd := by
  intro Wx fr w P env h σ H a b x y Q F ra rb q
  cases a with
  | int i =>
    cases b with
    | int j =>
      rw [R] at ra rb
      exact .inl (.inl (.inl ⟨i, j, ra, rb, tX.fin F q (by rw [R])⟩))
    | _ => exact q.elim
  | tup xs =>
    cases b with
    | tup ys =>
      rw [R] at ra rb
      obtain ⟨a, vs, rfl, na, ha, rla⟩ := ra
      obtain ⟨b, us, rfl, nb, hb, rlb⟩ := rb
      have la := rla.len
      have lb := rlb.len
      rw [show gAdd (.tup xs) (.tup ys) = if xs.length + ys.length ≤ sizeLine then some (.tup (xs ++ ys)) else none from rfl] at q
      split at q
      · rename_i z
        refine .inl (.inl (.inr ⟨a, b, vs, us, rfl, rfl, .of ha, .of hb, by omega, fun e => ?_, fun _ e => ?_, fun _ _ p n => tup_fin F q n (rla.append rlb)⟩))
        · subst e
          have : xs = [] := by cases xs; rfl; simp at la
          subst this
          exact tX.fin F q (by rw [List.nil_append, R]; exact ⟨b, us, rfl, nb, hb, rlb⟩)
        · subst e
          have : ys = [] := by cases ys; rfl; simp at lb
          subst this
          exact tX.fin F q (by rw [List.append_nil, R]; exact ⟨a, vs, rfl, na, ha, rla⟩)
      · exact q.elim
    | _ => exact q.elim
  | lst xs =>
    cases b with
    | lst ys =>
      rw [R] at ra rb
      obtain ⟨a, vs, rfl, na, ha, rla⟩ := ra
      obtain ⟨b, us, rfl, nb, hb, rlb⟩ := rb
      have la := rla.len
      have lb := rlb.len
      rw [show gAdd (.lst xs) (.lst ys) = if xs.length + ys.length ≤ sizeLine then some (.lst (xs ++ ys)) else none from rfl] at q
      split at q
      · rename_i z
        exact .inl (.inr ⟨a, b, vs, us, rfl, rfl, ha, hb, by omega, fun p n => lst_fin F q n (rla.append rlb)⟩)
      · exact q.elim
    | _ => exact q.elim
  | str i =>
    cases b with
    | str j =>
      rw [R] at ra rb
      rw [show gAdd (.str i) (.str j) = if i.length + j.length ≤ sizeLine then some (.str (i ++ j)) else none from rfl] at q
      split at q
      · rename_i z
        exact .inr ⟨i, j, ra, rb, z, tX.fin F q (by rw [R])⟩
      · exact q.elim
    | _ => exact q.elim
  | _ => exact q.elim
theorem e_add (ha : PE X a (tE X.K Wx ma)) (hb : PE X b (tE X.K Wx mb)) : PE X (.BinOp a .Add b pos) (tE X.K Wx (mBin gAdd ma mb)) :=
  e_bin (((op_add.or op_catA).or op_cat).or op_add_str) s_add ha hb
/-! ### * -/
def gMul : D → D → Option D
  | .int i, .int j => if (-(2 ^ 64) < i ∧ i < 2 ^ 64) ∨ (-(2 ^ 64) < j ∧ j < 2 ^ 64) then some (.int (i * j)) else none
  | .lst xs, .int k => if -(2 ^ 63) ≤ k ∧ k < 2 ^ 63 ∧ xs.length * k.toNat ≤ sizeLine then some (.lst (List.replicate k.toNat xs).flatten) else none
  | _, _ => none
theorem s_mul {K : PySem.W.Frag} : S2 K (fun x y H Q => rI CMul (fun i j => .int (i * j)) x y H Q ∨ rRep x y H Q) gMul := by
  intro Wx fr w P env h σ H a b x y Q F ra rb q
  cases a with
  | int i =>
    cases b with
    | int j =>
      rw [R] at ra rb
      rw [show gMul (.int i) (.int j) = if (-(2 ^ 64) < i ∧ i < 2 ^ 64) ∨ (-(2 ^ 64) < j ∧ j < 2 ^ 64) then some (.int (i * j)) else none from rfl] at q
      split at q
      · rename_i z
        exact .inl ⟨i, j, ra, rb, z, tX.fin F q (by rw [R])⟩
      · exact q.elim
    | _ => exact q.elim
  | lst xs =>
    cases b with
    | int k =>
      rw [R] at ra
      rw [R] at rb
      obtain ⟨a, vs, rfl, na, ha, rla⟩ := ra
      rw [show gMul (.lst xs) (.int k) = if -(2 ^ 63) ≤ k ∧ k < 2 ^ 63 ∧ xs.length * k.toNat ≤ sizeLine then some (.lst (List.replicate k.toNat xs).flatten) else none from rfl] at q
      split at q
      · rename_i z
        exact .inr ⟨a, k, vs, rfl, rb, ha, z.1, z.2.1, by rw [rla.len]; exact z.2.2, fun p n => lst_fin F q n (rla.reps _)⟩
      · exact q.elim
    | _ => exact q.elim
  | _ => exact q.elim
theorem e_mul (ha : PE X a (tE X.K Wx ma)) (hb : PE X b (tE X.K Wx mb)) : PE X (.BinOp a .Mult b pos) (tE X.K Wx (mBin gMul ma mb)) := e_bin (op_mul.or op_rep) s_mul ha hb
/-- [..] * k, a list that may be changed -/
def gRep (xs : List D) : D → Option (List D)
  | .int k => if -(2 ^ 63) ≤ k ∧ k < 2 ^ 63 ∧ xs.length * k.toNat ≤ sizeLine then some (List.replicate k.toNat xs).flatten else none
  | _ => none
def mRepL (m : M (List D)) (b : M D) : M (List D) := fun env h => bnd (m env h) fun xs h => bnd (b env h) fun k h => lift (gRep xs k) h
theorem l_rep (ha : PE X a (tE X.K Wx (mLst ml))) (hb : PE X b (tE X.K Wx mb)) : PE X (.BinOp a .Mult b pos) (tL X.K Wx (mRepL ml mb)) :=
  peI (pe_op op_rep ha hb) fun σ H Q ⟨fr, w, P, env, h, F, q⟩ => by
    have q' : tLx X.K Wx fr w P σ H (bnd (mLst ml env h) fun d h => match d with | .lst xs => (bnd (mb env h) fun k h => lift (gRep xs k) h) | _ => .stuck) Q := by
      unfold mLst
      rw [bnd_assoc]
      exact q
    refine oneL (Rα := R) F q' fun d w1 h1 x H1 F1 r1 g1 q1 => ?_
    cases d with
    | lst xs =>
      refine oneL (Rα := R) F1 q1 fun k w2 h2 y H2 F2 r2 g2 q2 => ?_
      have r1' : R w2 (Bu fr.O P w2) H2 (.lst xs) x := R.keep g2.rho g2.keepB _ _ r1
      rw [R] at r1'
      obtain ⟨a, vs, rfl, na, ha, rla⟩ := r1'
      cases k with
      | int k =>
        rw [R] at r2
        rw [show gRep xs (.int k) = if -(2 ^ 63) ≤ k ∧ k < 2 ^ 63 ∧ xs.length * k.toNat ≤ sizeLine then some (List.replicate k.toNat xs).flatten else none from rfl] at q2
        split at q2
        · rename_i z
          exact ⟨a, k, vs, rfl, r2, ha, z.1, z.2.1, by rw [rla.len]; exact z.2.2, fun p n => tLx.fin F2 q2 n (rla.reps _)⟩
        · exact q2.elim
      | _ => exact q2.elim
    | _ => exact q1.elim
end
end Fx

namespace Fx
open PySem
open L2
abbrev N0 : Addr → Prop := fun _ => False
/-! ### what a def does -/
def SpOf (K : PySem.W.Frag) (n : Nat) (m : List D → AH → Res D) : Sp := fun vs H Q E => ∃ (O : Addr → Prop) (w : Wd) (h : AH) (ds : List D), (∀ a, O a → H a ≠ none ∧ ¬ w.W a) ∧ RelH K w (Bu O N0 w) h H ∧ RL w (Bu O N0 w) H ds vs ∧ ds.length = n ∧
  match m ds h with
  | .ok d h' => ∀ w' v H', Grow w H w' H' → RelH K w' (Bu O N0 w') h' H' → R w' (Bu O N0 w') H' d v → Q v H'
  | .exc c h' => ∀ w' H', Grow w H w' H' → RelH K w' (Bu O N0 w') h' H' → E (.ref (He.ga K c.name)) none H'
  | .stuck => False
structure Good (P : Program) (w : World) (K : PySem.W.Frag) (mg : Str → Option Value) (base : Heap) (x : Str) (k n : Nat) (m : List D → AH → Res D) : Prop where
  ex : ∃ f fd ps, FnOk P w K mg base (L2.CX P w) k f fd ps (SpOf K n m) ∧ mg x = some (.ref f) ∧ PySem.W.keepIn K (.ref f) = true ∧ ∀ (s : Shared) (us : List Value), us.length = ps.length → BindsTo s fd ⟨us, []⟩ (ps.zip us)
theorem bu_in {O P : Addr → Prop} {w : Wd} : ∀ a, Bu (fun a => O a ∨ P a) N0 w a → Bu O P w a
  | _, .inl (.inl z) => .inl z
  | _, .inl (.inr z) => .inr (.inl z)
  | _, .inr (.inr z) => .inr (.inr z)
theorem bu_out {O P : Addr → Prop} {w : Wd} : ∀ a, Bu O P w a → Bu (fun a => O a ∨ P a) N0 w a
  | _, .inl z => .inl (.inl z)
  | _, .inr (.inl z) => .inl (.inr z)
  | _, .inr (.inr z) => .inr (.inr z)
section
variable {X : Cx} {Wx : WX} {a b c e : Expr} {es : List Expr} {pos : Pos} {ma mb mc : M D} {mt mu : M Bool} {mr ml : M (List D)} {mq mp : M Sq}
theorem e_call {x : Str} {p : Pos} {k n : Nat} {m : List D → AH → Res D} (G : Good X.prog X.w X.K X.mg X.base x k n m) (hr : Room k X.A) (tk : Takes X Wx) (hn : ∀ env h ds h', mr env h = .ok ds h' → ds.length = n) (ha : PA X (e :: es) (tA X.K Wx mr)) (hg : Gl X x := by rfl)
    (hdb : (x == ("__debug__" : Str)) = false := by decide) (he : starEach (e :: es) X.env = (false, eval e X.env) :: starEach es X.env := by rfl) (hpl : (backTo pos (starEach es X.env)).any (·.1) = false := by rfl) :
    PE X (.Call (.Name x p) (e :: es) [] pos) (tE X.K Wx (mCallF m mr)) := by
  obtain ⟨f, fd, ps, F, hm, hk, hb'⟩ := G.ex
  have hb : Binds X.K fd ps [] := fun s us _ hl => by
    rw [List.append_nil] at hl ⊢
    exact hb' s us hl
  refine peI (pe_callS (E := WE Wx) F hr hg hm hk hb (fun σ => passAt tk σ) ha hdb he hpl) fun σ H Q ⟨fr, w, P, env, h, F, q⟩ => ?_
  have q' : tX R X.K Wx fr w P σ H (bnd (mr env h) fun ds h => if ds.length = n then m ds h else .stuck) Q := by
    have e : mCallF m mr env h = bnd (mr env h) fun ds h => if ds.length = n then m ds h else .stuck := by
      unfold mCallF
      cases z : mr env h with
      | ok ds h' => show m ds h' = if ds.length = n then m ds h' else .stuck; rw [if_pos (hn _ _ _ _ z)]
      | exc c h' => rfl
      | stuck => rfl
    rw [← e]
    exact q
  refine one' F q' fun ds w2 h2 xs H2 F2 r2 _ q2 => ?_
  split at q2
  · rename_i z
    refine ⟨fun a => fr.O a ∨ P a, w2, h2, ds, fun a o => ?_, F2.rh.keep (fun _ _ e _ => e) (Keep.sub bu_in), RL.keep .refl (Keep.sub bu_in) _ _ r2, z, ?_⟩
    · rcases o with o | o
      · exact F2.ow o
      · exact (F2.pp a o).2
    · revert q2
      cases m ds h2 with
      | ok d h' => exact fun q2 w' v H' g rh r => q2 w' v H' g (rh.keep (fun _ _ e _ => e) (Keep.sub bu_out)) (R.keep .refl (Keep.sub bu_out) _ _ r)
      | exc c h' => exact fun q2 w' H' g rh => q2 w' H' g (rh.keep (fun _ _ e _ => e) (Keep.sub bu_out))
      | stuck => exact fun q2 => q2
  · exact q2.elim
end
/-! ### statements -/
/-- how a frame goes on: what stands still, stands -/
def Kw (O : Addr → Prop) (P : Addr → Prop) (w : Wd) (H : Hp) (P' : Addr → Prop) (w' : Wd) (H' : Hp) : Prop := Pre w.ρ w'.ρ ∧ Keep (Bu O P w) H (Bu O P' w') H'
theorem Kw.refl {O P : Addr → Prop} {w : Wd} {H : Hp} : Kw O P w H P w H := ⟨.refl, .refl⟩
theorem Kw.trans {O P P1 P2 : Addr → Prop} {w w1 w2 : Wd} {H H1 H2 : Hp} (x : Kw O P w H P1 w1 H1) (y : Kw O P1 w1 H1 P2 w2 H2) : Kw O P w H P2 w2 H2 := ⟨x.1.trans y.1, x.2.trans y.2⟩
theorem Grow.kw {O P : Addr → Prop} {w w' : Wd} {H H' : Hp} (g : Grow w H w' H') : Kw O P w H P w' H' := ⟨g.rho, g.keepB⟩
inductive SRes where
  | next (env : Env') (h : AH) | ret (d : D) (h : AH) | retN (ds : List D) (h : AH) | brk (env : Env') (h : AH) | cnt (env : Env') (h : AH) | exc (c : Ex) (env : Env') (h : AH) | stuck
abbrev MS := Env' → AH → SRes
def sX (K : PySem.W.Frag) (Wx : WX) (fr : Fr) (w : Wd) (P : Addr → Prop) (H : Hp) (r : SRes) (D : Ends) : Prop := match r with
  | .next env' h' => ∀ w' P' σ' H', RelF K fr w' P' env' h' σ' H' → Kw fr.O P w H P' w' H' → D.nx σ' H'
  | .ret d h' => ∀ w' v H', Grow fr.w fr.H w' H' → RelH K w' (Bu fr.O N0 w') h' H' → R w' (Bu fr.O N0 w') H' d v → D.rt v H'
  | .retN ds h' => ∀ w' p vs H', Grow fr.w fr.H w' H' → RelH K w' (Bu fr.O (fun a => a = p) w') h' H' → fr.H p = none → H' p = some (.lst vs) → ¬ w'.W p → RL w' (Bu fr.O (fun a => a = p) w') H' ds vs → D.rt (.ref p) H'
  | .brk env' h' => ∀ w' P' σ' H', RelF K fr w' P' env' h' σ' H' → Kw fr.O P w H P' w' H' → D.bk σ' H'
  | .cnt env' h' => ∀ w' P' σ' H', RelF K fr w' P' env' h' σ' H' → Kw fr.O P w H P' w' H' → D.ct σ' H'
  | .exc c env' h' => ∀ w' P' σ' H', RelF K fr w' P' env' h' σ' H' → Kw fr.O P w H P' w' H' → Wx (.ref (He.ga K c.name)) none σ' H'
  | .stuck => False
def tS (K : PySem.W.Frag) (Wx : WX) (m : MS) : TS := fun D σ H => ∃ fr w P env h, RelF K fr w P env h σ H ∧ sX K Wx fr w P H (m env h) D
@[simp] def bndS {α : Type} (r : Res α) (env : Env') (k : α → AH → SRes) : SRes := match r with
  | .ok a h => k a h
  | .exc c h => .exc c env h
  | .stuck => .stuck
section
variable {K : PySem.W.Frag} {Wx : WX} {fr : Fr} {w w1 : Wd} {P P1 : Addr → Prop} {env : Env'} {h h1 : AH} {σ : L2.St} {H H1 : Hp} {α β : Type} {Rα : RR α β} {D : Ends}
theorem sX.on {r : SRes} (k : Kw fr.O P w H P1 w1 H1) (x : sX K Wx fr w P H r D) : sX K Wx fr w1 P1 H1 r D := by
  cases r with
  | next env' h' => exact fun w' P' σ' H' F k' => x w' P' σ' H' F (k.trans k')
  | ret d h' => exact x
  | retN ds h' => exact x
  | brk env' h' => exact fun w' P' σ' H' F k' => x w' P' σ' H' F (k.trans k')
  | cnt env' h' => exact fun w' P' σ' H' F k' => x w' P' σ' H' F (k.trans k')
  | exc c env' h' => exact fun w' P' σ' H' F k' => x w' P' σ' H' F (k.trans k')
  | stuck => exact x
theorem sX.bnd {r : Res α} {k : α → AH → SRes} (F : RelF K fr w P env h σ H) (x : sX K Wx fr w P H (bndS r env k) D) :
    tX Rα K Wx fr w P σ H r (fun b H1 => ∃ a w1 h1, RelF K fr w1 P env h1 σ H1 ∧ Rα w1 (Bu fr.O P w1) H1 a b ∧ Grow w H w1 H1 ∧ sX K Wx fr w1 P H1 (k a h1) D) := by
  cases r with
  | ok a h' => exact fun w' b H' g rh ra => ⟨a, w', h', F.grow g rh, ra, g, sX.on g.kw x⟩
  | exc c h' => exact fun w' H' g rh => x w' P σ H' (F.grow g rh) g.kw
  | stuck => exact x
theorem sX.bndL {r : Res (List Fx.D)} {k : List Fx.D → AH → SRes} (F : RelF K fr w P env h σ H) (x : sX K Wx fr w P H (bndS r env k) D) :
    tLx K Wx fr w P σ H r (fun b H1 => ∃ ds p vs w1 h1, b = .ref p ∧ RelH K w1 (Bu fr.O (fun a => P a ∨ a = p) w1) h1 H1 ∧ Grow w H w1 H1 ∧ H p = none ∧ H1 p = some (.lst vs) ∧ ¬ w1.W p ∧ RL w1 (Bu fr.O (fun a => P a ∨ a = p) w1) H1 ds vs ∧ sX K Wx fr w P H (k ds h1) D) := by
  cases r with
  | ok a h' => exact fun w' p vs H' g rh n e nw rl => ⟨a, p, vs, w', h', rfl, rh, g, n, e, nw, rl, x⟩
  | exc c h' => exact fun w' H' g rh => x w' P σ H' (F.grow g rh) g.kw
  | stuck => exact x
/-- it goes on -/
theorem sX.go {env' : Env'} {σ' : L2.St} (F : RelF K fr w1 P1 env' h1 σ' H1) (k : Kw fr.O P w H P1 w1 H1) (x : sX K Wx fr w P H (.next env' h1) D) : D.nx σ' H1 := x w1 P1 σ' H1 F k
/-- a slot gets a value -/
theorem RelF.set {i : Nat} {d : Fx.D} {v : V} (F : RelF K fr w P env h σ H) (r : R w (Bu fr.O P w) H d v) : RelF K fr w P (env.set i (.val d)) h (σ.set i (some v)) H where
  rh := F.rh
  gr := F.gr
  ob := F.ob
  pp := F.pp
  sl := fun j s e => by
    by_cases hj : i = j
    · subst hj
      by_cases hl : i < env.length
      · rw [List.getElem?_set_self hl] at e
        cases e
        have hl' : i < σ.length := by rw [← F.len]; exact hl
        rw [List.getElem?_set_self hl']
        exact ⟨v, rfl, r⟩
      · rw [List.getElem?_eq_none (by simpa using hl)] at e
        cases e
    · rw [List.getElem?_set_ne hj] at e ⊢
      exact F.sl j s e
  inj := fun j l ds es p e1 e2 e3 e4 => by
    have nj : ∀ {m : Nat} {ds : List Fx.D}, (env.set i (.val d))[m]? = some (.own ds) → i ≠ m := fun {m ds} e z => by
      subst z
      by_cases hl : i < env.length
      · rw [List.getElem?_set_self hl] at e; cases e
      · rw [List.getElem?_eq_none (by simpa using hl)] at e; cases e
    have n1 := nj e1
    have n2 := nj e2
    rw [List.getElem?_set_ne n1] at e1 e3
    rw [List.getElem?_set_ne n2] at e2 e4
    exact F.inj j l ds es p e1 e2 e3 e4
  len := by rw [List.length_set, List.length_set]; exact F.len
end
def mSeq (a b : MS) : MS := fun env h => match a env h with
  | .next env' h' => b env' h'
  | r => r
def mSkip : MS := fun env h => .next env h
def mDrop {α : Type} (a : M α) : MS := fun env h => bndS (a env h) env fun _ h => .next env h
def mRet (a : M D) : MS := fun env h => bndS (a env h) env fun d h => .ret d h
def mRetN : MS := fun _ h => .ret .non h
def mIfS (t : M Bool) (a b : MS) : MS := fun env h => bndS (t env h) env fun c h => if c = true then a env h else b env h
def mSet (i : Nat) (a : M D) : MS := fun env h => bndS (a env h) env fun d h => .next (env.set i (.val d)) h
def mSetL (i : Nat) (a : M (List D)) : MS := fun env h => bndS (a env h) env fun ds h => .next (env.set i (.own ds)) h
def mRaise (c : Ex) : MS := fun env h => .exc c env h
def mNever : MS := fun _ _ => .stuck
section
variable {X : Cx} {Wx : WX} {a b c e : Expr} {es : List Expr} {pos : Pos} {ma mb mc : M D} {mt mu : M Bool} {mr ml : M (List D)} {mq mp : M Sq} {st : Stmt} {sts : List Stmt} {m m' : MS}
theorem oneS {α β : Type} {Rα : RR α β} {ta : M α} {fr : Fr} {w : Wd} {P : Addr → Prop} {env : Env'} {h : AH} {σ : L2.St} {H : Hp} {k : α → AH → SRes} {D : Ends} {G : β → Hp → Prop}
    (F : RelF X.K fr w P env h σ H) (q : sX X.K Wx fr w P H (bndS (ta env h) env k) D)
    (hk : ∀ d w2 h2 x H2, RelF X.K fr w2 P env h2 σ H2 → Rα w2 (Bu fr.O P w2) H2 d x → Grow w H w2 H2 → sX X.K Wx fr w2 P H2 (k d h2) D → G x H2) : tG Rα X.K Wx ta σ H G :=
  ⟨fr, w, P, env, h, F, (sX.bnd (Rα := Rα) F q).imp fun x H1 ⟨d, w1, h1, F1, r1, g1, q1⟩ => hk d w1 h1 x H1 F1 r1 g1 q1⟩
theorem ss_nil : PSs X [] (tS X.K Wx mSkip) := pssI pss_nil fun D σ H ⟨fr, w, P, env, h, F, q⟩ => sX.go F .refl q
theorem ss_one (h1 : PS X st (tS X.K Wx m)) : PSs X [st] (tS X.K Wx m) := pss_one h1
theorem ss_cons (h1 : PS X st (tS X.K Wx m)) (h2 : PSs X sts (tS X.K Wx m')) : PSs X (st :: sts) (tS X.K Wx (mSeq m m')) :=
  pssI (pss_cons h1 h2) fun D σ H ⟨fr, w, P, env, h, F, q⟩ => ⟨fr, w, P, env, h, F, by
    unfold mSeq at q
    revert q
    cases m env h with
    | next env' h' => exact fun q w' P' σ' H' F' k => ⟨fr, w', P', env', h', F', sX.on k q⟩
    | ret d h' => exact id
    | retN ds h' => exact id
    | brk env' h' => exact id
    | cnt env' h' => exact id
    | exc c env' h' => exact id
    | stuck => exact id⟩
theorem s_never : PS X st (tS X.K Wx mNever) := psI ps_never fun D σ H ⟨_, _, _, _, _, _, q⟩ => q
theorem ss_never : PSs X sts (tS X.K Wx mNever) := pssI pss_never fun D σ H ⟨_, _, _, _, _, _, q⟩ => q
theorem s_pass : PS X (.Pass pos) (tS X.K Wx mSkip) := psI ps_pass fun D σ H ⟨fr, w, P, env, h, F, q⟩ => sX.go F .refl q
theorem s_expr (he : PE X e (tE X.K Wx ma)) (hs : swapsWith e none pos.line X.env = pure false := by rfl) : PS X (.Expr e pos) (tS X.K Wx (mDrop ma)) :=
  psI (ps_expr he hs) fun D σ H ⟨fr, w, P, env, h, F, q⟩ => oneS F q fun d w2 h2 x H2 F2 _ g q2 => sX.go F2 .refl q2
theorem s_ret (he : PE X e (tE X.K Wx ma)) : PS X (.Return (some e) pos) (tS X.K Wx (mRet ma)) :=
  psI (ps_ret he) fun D σ H ⟨fr, w, P, env, h, F, q⟩ => oneS F q fun d w2 h2 x H2 F2 r2 g q2 => by
    have sb : ∀ a, Bu fr.O N0 w2 a → Bu fr.O P w2 a := fun a z => z.elim .inl fun z => z.elim False.elim fun z => .inr (.inr z)
    exact q2 w2 x H2 F2.gr (F2.rh.keep (fun _ _ e _ => e) (Keep.sub sb)) (R.keep .refl (Keep.sub sb) _ _ r2)
theorem s_retN : PS X (.Return none pos) (tS X.K Wx mRetN) := psI ps_retN fun D σ H ⟨fr, w, P, env, h, F, q⟩ => by
  have sb : ∀ a, Bu fr.O N0 w a → Bu fr.O P w a := fun a z => z.elim .inl fun z => z.elim False.elim fun z => .inr (.inr z)
  exact q w .non H F.gr (F.rh.keep (fun _ _ e _ => e) (Keep.sub sb)) (by rw [R])
theorem s_if {x y : List Stmt} (hc : PT X c (tB X.K Wx mt)) (ha : PSs X x (tS X.K Wx m)) (hb : PSs X y (tS X.K Wx m')) : PS X (.If c x y pos) (tS X.K Wx (mIfS mt m m')) :=
  psI (ps_if hc ha hb) fun D σ H ⟨fr, w, P, env, h, F, q⟩ => oneS F q fun d w2 h2 x H2 F2 r2 _ q2 => by
    cases (show d = x from r2)
    cases d with
    | true => exact ⟨fr, w2, P, env, h2, F2, q2⟩
    | false => exact ⟨fr, w2, P, env, h2, F2, q2⟩
theorem s_set (i : Nat) {x : Str} {pos' : Pos} (hN : X.N.Nodup) (he : PE X e (tE X.K Wx ma)) (hi : X.N[i]? = some x := by rfl) (hx : Loc X.env.scope x := by first | exact Or.inl rfl | exact Or.inr rfl) (hs : swapsWith e (some (.Name x pos')) pos.line X.env = pure false := by rfl)
    (hf : X.fn x = true ∨ X.env.scope.names.lookup x = some .local := by first | exact .inl rfl | exact .inr rfl | assumption) : PS X (.Assign [.Name x pos'] e pos) (tS X.K Wx (mSet i ma)) :=
  psI (ps_set hN hi hx he hs hf) fun D σ H ⟨fr, w, P, env, h, F, q⟩ => oneS F q fun d w2 h2 x H2 F2 r2 g q2 => sX.go (F2.set r2) .refl q2
/-- a slot gets a list of its own -/
theorem RelF.setOwn {K : PySem.W.Frag} {fr : Fr} {w w1 : Wd} {P : Addr → Prop} {env : Env'} {h h1 : AH} {σ : L2.St} {H H1 : Hp} {i : Nat} {ds : List D} {p : Addr} {vs : List V} (F : RelF K fr w P env h σ H) (g : Grow w H w1 H1) (n : H p = none)
    (rh : RelH K w1 (Bu fr.O (fun a => P a ∨ a = p) w1) h1 H1) (e : H1 p = some (.lst vs)) (nw : ¬ w1.W p) (r : RL w1 (Bu fr.O (fun a => P a ∨ a = p) w1) H1 ds vs) :
    RelF K fr w1 (fun a => P a ∨ a = p) (env.set i (.own ds)) h1 (σ.set i (some (.ref p))) H1 ∧ Kw fr.O P w H (fun a => P a ∨ a = p) w1 H1 := by
  have kp : Keep (Bu fr.O P w) H (Bu fr.O (fun a => P a ∨ a = p) w1) H1 := fun a o q b => by
    refine ⟨g.keep a o q fun z => b (.inr (.inr z)), ?_⟩
    rintro (z | (z | z) | z)
    · exact b (.inl z)
    · exact b (.inr (.inl z))
    · subst z; rw [n] at q; cases q
    · rcases g.new a z with z | z
      · exact b (.inr (.inr z))
      · rw [q] at z; cases z
  have old : ∀ (j : Nat) s, env[j]? = some s → SlR w1 (Bu fr.O (fun a => P a ∨ a = p) w1) (fun a => P a ∨ a = p) H1 s σ[j]? := fun j s q => by
    have z := F.sl j s q
    cases s with
    | none => trivial
    | val d =>
      obtain ⟨v, z1, z2⟩ := z
      exact ⟨v, z1, R.keep g.rho kp _ _ z2⟩
    | own es =>
      obtain ⟨q', us, z1, z2, z3, z4⟩ := z
      exact ⟨q', us, z1, .inl z2, g.keep _ _ z3 (F.pp _ z2).2.2, RL.keep g.rho kp _ _ z4⟩
  refine ⟨⟨rh, F.gr.trans g, F.ob, fun a z => ?_, fun j s q => ?_, fun j l es fs a e1 e2 e3 e4 => ?_, by rw [List.length_set, List.length_set]; exact F.len⟩, g.rho, kp⟩
  · rcases z with z | z
    · obtain ⟨z1, z2, z3⟩ := F.pp a z
      refine ⟨z1, fun y => z2 (g.all a y), fun y => ?_⟩
      rcases g.new a y with y | y
      · exact z3 y
      · exact z2 y
    · subst z
      exact ⟨F.gr.all _ n, by rw [e]; simp, nw⟩
  · by_cases hj : i = j
    · subst hj
      by_cases hl : i < env.length
      · rw [List.getElem?_set_self hl] at q
        cases q
        have hl' : i < σ.length := by rw [← F.len]; exact hl
        rw [List.getElem?_set_self hl']
        exact ⟨p, vs, rfl, .inr rfl, e, r⟩
      · rw [List.getElem?_eq_none (by simpa using hl)] at q
        cases q
    · rw [List.getElem?_set_ne hj] at q ⊢
      exact old j s q
  · -- an older own list does not stand at p
    have other : ∀ {m : Nat} {gs : List D}, i ≠ m → env[m]? = some (.own gs) → σ[m]? ≠ some (some (.ref p)) := fun {m gs} _ q z => by
      obtain ⟨q', us, z1, z2, z3, _⟩ := F.sl m _ q
      rw [z] at z1
      cases z1
      rw [n] at z3
      cases z3
    have selfp : ∀ {m : Nat} {a : Addr}, i = m → (σ.set i (some (.ref p)))[m]? = some (some (.ref a)) → a = p := fun {m a} z q => by
      subst z
      by_cases hl : i < σ.length
      · rw [List.getElem?_set_self hl] at q; cases q; rfl
      · rw [List.getElem?_eq_none (by simpa using hl)] at q; cases q
    by_cases hj : i = j
    · by_cases hl : i = l
      · rw [← hj, hl]
      · have z := selfp hj e3
        subst z
        rw [List.getElem?_set_ne hl] at e2 e4
        exact absurd e4 (other hl e2)
    · by_cases hl : i = l
      · have z := selfp hl e4
        subst z
        rw [List.getElem?_set_ne hj] at e1 e3
        exact absurd e3 (other hj e1)
      · rw [List.getElem?_set_ne hj] at e1 e3
        rw [List.getElem?_set_ne hl] at e2 e4
        exact F.inj j l es fs a e1 e2 e3 e4
theorem s_setL (i : Nat) {x : Str} {pos' : Pos} (hN : X.N.Nodup) (he : PE X e (tL X.K Wx ml)) (hi : X.N[i]? = some x := by rfl) (hx : Loc X.env.scope x := by first | exact Or.inl rfl | exact Or.inr rfl) (hs : swapsWith e (some (.Name x pos')) pos.line X.env = pure false := by rfl)
    (hf : X.fn x = true ∨ X.env.scope.names.lookup x = some .local := by first | exact .inl rfl | exact .inr rfl | assumption) : PS X (.Assign [.Name x pos'] e pos) (tS X.K Wx (mSetL i ml)) :=
  psI (ps_set hN hi hx he hs hf) fun D σ H ⟨fr, w, P, env, h, F, q⟩ => ⟨fr, w, P, env, h, F, by
    have z := sX.bndL F q
    revert z
    cases ml env h with
    | ok ds h' =>
      intro z w' p vs H' g rh n e nw rl
      obtain ⟨ds', p', vs', w1, h1, e', rh', g', n', e1, nw', rl', q'⟩ := z w' p vs H' g rh n e nw rl
      cases e'
      obtain ⟨F', kp⟩ := F.setOwn (i := i) g' n' rh' e1 nw' rl'
      exact sX.go F' kp q'
    | exc c h' => exact id
    | stuck => exact id⟩
/-! ### raise -/
structure ExOk (K : PySem.W.Frag) (mg : Str → Option Value) (c : Ex) : Prop where
  g : mg c.name = some (.ref (He.ga K c.name))
  x : PySem.W.excIn K (He.ga K c.name) He.veBase "ValueError.__new__" = true
  k : PySem.W.keepIn K (.ref (He.ga K c.name)) = true
  b : PySem.W.subIn K (.ref (He.ga K c.name)) (.type "BaseException") = some true
  t : PySem.W.typeIn K (.ref (He.ga K c.name)) = some (.type "type")
theorem s_raise (c : Ex) {x mm : Str} {j : Nat} {p p2 p3 pos : Pos} (E : ExOk X.K X.mg c) (tk : Takes X Wx) (hx : x = c.name := by rfl) (hg : Gl X x := by rfl) (hc : X.calm = true := by rfl) (hd : (x == ("__debug__" : Str)) = false := by decide) :
    PS X (.Raise (some (.Call (.Name x p) [.Constant (.str mm) j p2] [] p3)) none pos) (tS X.K Wx (mRaise c)) := by
  subst hx
  exact psI (ps_raise hc tk (pmk_own PySem.F.excBase_ValueError E.x E.g E.k (raises_own E.b E.t) hg hd)) fun D σ H ⟨fr, w, P, env, h, F, q⟩ => q w P σ H F .refl
end
/-! ### a def by its body -/
def callM (N : Nat) (m : MS) : List D → AH → Res D := fun ds h => match m (ds.map .val ++ List.replicate (N - ds.length) .none) h with
  | .next _ h' => .ok .non h'
  | .ret d h' => .ok d h'
  | .retN ds h' => .ok (.lst ds) h'
  | .exc c _ h' => .exc c h'
  | _ => .stuck
theorem start_at {w : Wd} {B : Bz} {P : Addr → Prop} {H : Hp} : ∀ {ds : List D} {vs : List V} (k : Nat), RL w B H ds vs → ∀ (i : Nat) s, (ds.map Sl.val ++ List.replicate k .none)[i]? = some s → SlR w B P H s (vs.map some ++ List.replicate k none)[i]?
  | [], vs, k, r, i, s, e => by
    rw [RL] at r
    subst r
    have : s = .none := by
      rw [List.map_nil, List.nil_append] at e
      exact (List.mem_replicate.mp (List.mem_of_getElem? e)).2
    subst this
    trivial
  | d :: ds, vs, k, r, 0, s, e => by
    rw [RL] at r
    obtain ⟨v, t, rfl, r1, r2⟩ := r
    have : Sl.val d = s := by simpa using e
    subst this
    exact ⟨v, rfl, r1⟩
  | d :: ds, vs, k, r, i + 1, s, e => by
    rw [RL] at r
    obtain ⟨v, t, rfl, r1, r2⟩ := r
    have := start_at (P := P) k r2 i s (by simpa using e)
    simpa using this
theorem start_no {ds : List D} {k : Nat} {i : Nat} {es : List D} : (ds.map Sl.val ++ List.replicate k .none)[i]? ≠ some (.own es) := fun e => by
  rcases List.mem_append.mp (List.mem_of_getElem? e) with z | z
  · obtain ⟨d, _, q⟩ := List.mem_map.mp z
    cases q
  · cases (List.mem_replicate.mp z).2
/-- THE RULE: a def of the text keeps what its mirror says -/
theorem fnok_of {P : Program} {w : World} {K : PySem.W.Frag} {mg : Str → Option Value} {base : Heap} {x qual : Str} {st : Stmt} {f : Addr} {fd : FuncData} {N ps : List Str} {k n : Nat} {m : MS}
    (F : FunD K x qual (defArgs st) (defBody st) (defScope st) [] [] f fd) (S : FnScope N ps (defScope st)) (hn : ps.length = n) (hN : n ≤ N.length)
    (hbody : ∀ (cdv : Value) (A : Around) (outer : List Env) (s : Shared) (H : Hp) (E : XK), Room k (A.deeper (PyProof.Rows.envOfC qual (defScope st) s.heap.objs.size f cdv)) →
      PSs (cxOf (L2.CX P w) P w K mg base N qual (defScope st) f cdv A outer s H E) (defBody st) (tS K (fun cls d _ H => E cls d H) m)) :
    FnOk P w K mg base (L2.CX P w) (k + 1) f fd ps (SpOf K n (callM N.length m)) := by
  obtain ⟨oc, od, dV, kV, doc, pm, an, cdv, ct, osl, rfl, lk, hcd, _, _⟩ := F.ex
  refine fn_of lk hcd S (fun vs H Q E h => ?_) fun A outer s H vs Q E hr hsp => ?_
  · obtain ⟨O, w', h, ds, _, _, rl, e, _⟩ := h
    rw [rl.len, e, hn]
  · obtain ⟨O, w0, h0, ds, ho, rh, rl, e, q⟩ := hsp
    refine ⟨_, hbody cdv A outer s H E hr, ⟨w0, H, O⟩, w0, N0, ds.map .val ++ List.replicate (N.length - ds.length) .none, h0, ⟨rh, .refl, ho, fun _ z => z.elim, ?_, fun i j es fs p e1 => absurd e1 start_no, ?_⟩, ?_⟩
    · unfold L2.start
      rw [rl.len]
      exact start_at _ rl
    · unfold L2.start
      have := rl.len
      simp [this]
    · unfold callM at q
      have sb : ∀ {P' : Addr → Prop} {w' : Wd} a, Bu O N0 w' a → Bu O P' w' a := fun a z => z.elim .inl fun z => z.elim False.elim fun z => .inr (.inr z)
      revert q
      cases m (ds.map .val ++ List.replicate (N.length - ds.length) .none) h0 with
      | next env' h' => exact fun q w' P' σ' H' F' k => q w' .non H' F'.gr (F'.rh.keep (fun _ _ e _ => e) (Keep.sub sb)) (by rw [R])
      | ret d h' => exact id
      | retN es h' =>
        intro q w' p vs H' g rh n e nw rl
        have sb2 : ∀ a, Bu O N0 w' a → Bu O (fun a => a = p) w' a := fun a z => z.elim .inl fun z => z.elim False.elim fun z => .inr (.inr z)
        refine q w' (.ref p) H' g (rh.keep (fun _ _ e _ => e) (Keep.sub sb2)) ?_
        rw [R]
        refine ⟨p, vs, rfl, ?_, e, RL.keep .refl (Keep.sub sb2) _ _ rl⟩
        rintro (z | z | z)
        · exact (ho p z).1 n
        · exact z
        · exact nw z
      | exc c env' h' => exact fun q w' P' σ' H' F' k => q w' H' F'.gr (F'.rh.keep (fun _ _ e _ => e) (Keep.sub sb))
      | brk env' h' => exact fun q => q.elim
      | cnt env' h' => exact fun q => q.elim
      | stuck => exact fun q => q.elim
theorem good_of {P : Program} {w : World} {K : PySem.W.Frag} {mg : Str → Option Value} {base : Heap} {x qual : Str} {st : Stmt} {f : Addr} {fd : FuncData} {N ps : List Str} {k n : Nat} {m : MS}
    (F : FunD K x qual (defArgs st) (defBody st) (defScope st) [] [] f fd) (hm : mg x = some (.ref f)) (hb : ∀ (s : Shared) (us : List Value), us.length = ps.length → BindsTo s fd ⟨us, []⟩ (ps.zip us)) (S : FnScope N ps (defScope st)) (hn : ps.length = n) (hN : n ≤ N.length)
    (hbody : ∀ (cdv : Value) (A : Around) (outer : List Env) (s : Shared) (H : Hp) (E : XK), Room k (A.deeper (PyProof.Rows.envOfC qual (defScope st) s.heap.objs.size f cdv)) →
      PSs (cxOf (L2.CX P w) P w K mg base N qual (defScope st) f cdv A outer s H E) (defBody st) (tS K (fun cls d _ H => E cls d H) m)) :
    Good P w K mg base x (k + 1) n (callM N.length m) := ⟨f, fd, ps, fnok_of F S hn hN hbody, hm, F.kp, hb⟩
end Fx

namespace Fx
open PySem
open L2
/-! ### what is walked -/
def Walks (J : It) (ds : List D) (w : Wd) (B : Bz) (H : Hp) : Prop := ∀ w2 B2 H2, Pre w.ρ w2.ρ → Keep B H B2 H2 → (∀ a, B2 a → H2 a ≠ none) → ∀ i : Nat, (ds.length ≤ i → J.stop i H2) ∧
  ∀ d, ds[i]? = some d → J.go i H2 ∧ ∀ x H3, J.yld i H2 x H3 → (∀ a o, H2 a = some o → H3 a = some o) ∧ (∀ a, H3 a = none → H2 a = none) ∧ R w2 B2 H3 d x
def tI (K : PySem.W.Frag) (Wx : WX) (m : M (List D)) : TI := fun σ H G => ∃ fr w P env h, RelF K fr w P env h σ H ∧ match m env h with
  | .ok ds h' => ∀ w' J H', Grow w H w' H' → RelH K w' (Bu fr.O P w') h' H' → Walks J ds w' (Bu fr.O P w') H' → G J H'
  | .exc c h' => ∀ w' H', Grow w H w' H' → RelH K w' (Bu fr.O P w') h' H' → Wx (.ref (He.ga K c.name)) none σ H'
  | .stuck => False
theorem piI {X : Cx} {tg e : Expr} {t t' : TI} (h : PI X tg e t) (i : ∀ σ H Q, t' σ H Q → t σ H Q) : PI X tg e t' := ⟨fun pins s σ H Q I q => h.run pins s σ H Q I (i σ H Q q)⟩
/-- the items of a sequence -/
def mItems (m : M D) : M (List D) := fun env h => bnd (m env h) fun d h => lift ((sqOf d).map (·.2)) h
def tupItems : D → Option (List D)
  | .tup ds => some ds
  | _ => none
def lstItems : D → Option (List D)
  | .lst ds => some ds
  | .scr ns => some (ns.map .int)
  | _ => none
def mIt (g : D → Option (List D)) (m : M D) : M (List D) := fun env h => bnd (m env h) fun d h => lift (g d) h
theorem walks_list {K : PySem.W.Frag} {w : Wd} {B : Bz} {H : Hp} {a : Addr} {vs : List V} {ds : List D} (nb : ¬ B a) (h : Rd H a (.lst vs)) (rl : RL w B H ds vs) : Walks (Itl K a) ds w B H := fun w2 B2 H2 p k _ i => by
  have h2 : Rd H2 a (.lst vs) := by
    rcases h with h | ⟨o, h⟩
    · exact .inl (k _ _ h nb).1
    · exact .inr ⟨o, (k _ _ h nb).1⟩
  refine ⟨fun z => ⟨vs, .inl h2, by rw [rl.len]; exact z⟩, fun d e => ?_⟩
  obtain ⟨v, e1, r⟩ := at_ok i rl e
  refine ⟨⟨vs, v, .inl h2, e1⟩, fun x H3 y => ?_⟩
  obtain ⟨e2, y⟩ := y
  subst e2
  have := (y vs (.inl h2)).symm.trans e1
  cases this
  exact ⟨fun _ _ z => z, fun _ z => z, R.keep p k _ _ r⟩
theorem walks_tup {K : PySem.W.Frag} {w : Wd} {B : Bz} {H : Hp} {a : Addr} {vs : List V} {ds : List D} (nb : ¬ B a) (h : H a = some (.tup vs)) (rl : RL w B H ds vs) : Walks (Itt K a) ds w B H := fun w2 B2 H2 p k _ i => by
  have h2 : SqT K H2 a vs := .of (k _ _ h nb).1
  refine ⟨fun z => ⟨vs, h2, by rw [rl.len]; exact z⟩, fun d e => ?_⟩
  obtain ⟨v, e1, r⟩ := at_ok i rl e
  refine ⟨⟨vs, v, h2, e1⟩, fun x H3 y => ?_⟩
  obtain ⟨e2, y⟩ := y
  subst e2
  have := (y vs h2).symm.trans e1
  cases this
  exact ⟨fun _ _ z => z, fun _ z => z, R.keep p k _ _ r⟩
def rangeD (lo : Int) (n : Nat) : List D := (List.range n).map fun (i : Nat) => .int (lo + i)
theorem rangeD_at {lo : Int} {n i : Nat} {d : D} (e : (rangeD lo n)[i]? = some d) : i < n ∧ d = .int (lo + i) := by
  unfold rangeD at e
  rw [List.getElem?_map] at e
  cases q : (List.range n)[i]? with
  | none => rw [q] at e; cases e
  | some j =>
    rw [q] at e
    have := List.getElem?_eq_some_iff.mp q
    obtain ⟨h1, h2⟩ := this
    simp at h1 h2
    subst h2
    cases e
    exact ⟨h1, rfl⟩
theorem walks_range {w : Wd} {B : Bz} {H : Hp} {lo : Int} {n : Nat} : Walks (Itr lo n) (rangeD lo n) w B H := fun w2 B2 H2 p k _ i => by
  refine ⟨fun z => ?_, fun d e => ?_⟩
  · have : (rangeD lo n).length = n := by simp [rangeD]
    rw [this] at z
    exact z
  · obtain ⟨h1, rfl⟩ := rangeD_at e
    refine ⟨h1, fun x H3 y => ?_⟩
    obtain ⟨rfl, rfl⟩ := y
    exact ⟨fun _ _ z => z, fun _ z => z, by rw [R]⟩
def rng1 : List D → Option (List D)
  | [.int j] => if -1000000 ≤ j ∧ j ≤ 1000000 then some (rangeD 0 j.toNat) else none
  | _ => none
def rng2 : List D → Option (List D)
  | [.int i, .int j] => if (-1000000 ≤ i ∧ i ≤ 1000000) ∧ -1000000 ≤ j ∧ j ≤ 1000000 then some (rangeD i (j - i).toNat) else none
  | _ => none
theorem rng1_ok : ∀ {ds xs : List D}, rng1 ds = some xs → ∃ j : Int, ds = [.int j] ∧ -1000000 ≤ j ∧ j ≤ 1000000 ∧ xs = rangeD 0 j.toNat := fun {ds xs} e => by
  unfold rng1 at e
  split at e
  · rename_i j
    split at e
    · rename_i z
      cases e
      exact ⟨j, rfl, z.1, z.2, rfl⟩
    · cases e
  · cases e
theorem rng2_ok : ∀ {ds xs : List D}, rng2 ds = some xs → ∃ i j : Int, ds = [.int i, .int j] ∧ ((-1000000 ≤ i ∧ i ≤ 1000000) ∧ -1000000 ≤ j ∧ j ≤ 1000000) ∧ xs = rangeD i (j - i).toNat := fun {ds xs} e => by
  unfold rng2 at e
  split at e
  · rename_i i j
    split at e
    · rename_i z
      cases e
      exact ⟨i, j, rfl, z, rfl⟩
    · cases e
  · cases e
def mFnL (g : List D → Option (List D)) (m : M (List D)) : M (List D) := fun env h => bnd (m env h) fun ds h => lift (g ds) h
section
variable {X : Cx} {Wx : WX} {a b c e tg iter : Expr} {es : List Expr} {pos p : Pos} {ma mb mc : M D} {mt mu : M Bool} {mr ml : M (List D)} {mq mp : M Sq} {st : Stmt} {sts body : List Stmt} {m m' : MS}
theorem oneI {α β : Type} {Rα : RR α β} {ta : M α} {fr : Fr} {w : Wd} {P : Addr → Prop} {env : Env'} {h : AH} {σ : L2.St} {H : Hp} {k : α → AH → Res (List D)} {Q : It → Hp → Prop} {G : β → Hp → Prop}
    (F : RelF X.K fr w P env h σ H) (q : match bnd (ta env h) k with
      | .ok ds h' => ∀ w' J H', Grow w H w' H' → RelH X.K w' (Bu fr.O P w') h' H' → Walks J ds w' (Bu fr.O P w') H' → Q J H'
      | .exc c h' => ∀ w' H', Grow w H w' H' → RelH X.K w' (Bu fr.O P w') h' H' → Wx (.ref (He.ga X.K c.name)) none σ H'
      | .stuck => False)
    (hk : ∀ d w2 h2 x H2, RelF X.K fr w2 P env h2 σ H2 → Rα w2 (Bu fr.O P w2) H2 d x → Grow w H w2 H2 → (match k d h2 with
      | .ok ds h' => ∀ w' J H', Grow w H w' H' → RelH X.K w' (Bu fr.O P w') h' H' → Walks J ds w' (Bu fr.O P w') H' → Q J H'
      | .exc c h' => ∀ w' H', Grow w H w' H' → RelH X.K w' (Bu fr.O P w') h' H' → Wx (.ref (He.ga X.K c.name)) none σ H'
      | .stuck => False) → G x H2) : tG Rα X.K Wx ta σ H G := by
  refine ⟨fr, w, P, env, h, F, ?_⟩
  revert q
  cases ta env h with
  | ok a h' => exact fun q w' x H' g rh ra => hk a w' h' x H' (F.grow g rh) ra g q
  | exc c h' => exact id
  | stuck => exact id
theorem i_list (ha : PE X a (tE X.K Wx ma)) : PI X tg a (tI X.K Wx (mIt lstItems ma)) :=
  piI (pi_list ha) fun σ H Q ⟨fr, w, P, env, h, F, q⟩ => oneI F q fun d w2 h2 x H2 F2 r2 g q2 => by
    cases d with
    | lst ds =>
      rw [R] at r2
      obtain ⟨p, vs, rfl, nb, e, rl⟩ := r2
      exact ⟨p, rfl, ⟨vs, .of e⟩, q2 w2 _ H2 g F2.rh (walks_list nb (.inl e) rl)⟩
    | scr ns =>
      rw [R] at r2
      obtain ⟨p, rfl, nb, e⟩ := r2
      exact ⟨p, rfl, ⟨_, .inl e⟩, q2 w2 _ H2 g F2.rh (walks_list nb e (RL.ints ns))⟩
    | _ => exact q2.elim
theorem i_tup (ha : PE X a (tE X.K Wx ma)) : PI X tg a (tI X.K Wx (mIt tupItems ma)) :=
  piI (pi_tup ha) fun σ H Q ⟨fr, w, P, env, h, F, q⟩ => oneI F q fun d w2 h2 x H2 F2 r2 g q2 => by
    cases d with
    | tup ds =>
      rw [R] at r2
      obtain ⟨p, vs, rfl, nb, e, rl⟩ := r2
      exact ⟨p, rfl, ⟨vs, .of e⟩, q2 w2 _ H2 g F2.rh (walks_tup nb e rl)⟩
    | _ => exact q2.elim
theorem RL.one {w : Wd} {B : Bz} {H : Hp} {d : D} {vs : List V} (r : RL w B H [d] vs) : ∃ v, vs = [v] ∧ R w B H d v := by
  rw [RL] at r
  obtain ⟨v, t, rfl, r1, r2⟩ := r
  rw [RL] at r2
  subst r2
  exact ⟨v, rfl, r1⟩
theorem RL.two {w : Wd} {B : Bz} {H : Hp} {d d' : D} {vs : List V} (r : RL w B H [d, d'] vs) : ∃ v v', vs = [v, v'] ∧ R w B H d v ∧ R w B H d' v' := by
  rw [RL] at r
  obtain ⟨v, t, rfl, r1, r2⟩ := r
  obtain ⟨v', rfl, r3⟩ := r2.one
  exact ⟨v, v', rfl, r1, r3⟩
theorem i_range1 (hm : X.mg "range" = none) (ha : PA X [a] (tA X.K Wx mr)) (hg : Gl X "range" := by rfl) (hs : starEach [a] X.env = [(false, eval a X.env)] := by rfl) : PI X tg (.Call (.Name "range" p) [a] [] pos) (tI X.K Wx (mFnL rng1 mr)) :=
  piI (pi_range1 hg hm ha hs) fun σ H Q ⟨fr, w, P, env, h, F, q⟩ => oneI F q fun ds w2 h2 x H2 F2 r2 g q2 => by
    cases e : rng1 ds with
    | none => rw [e] at q2; exact q2.elim
    | some xs =>
      rw [e] at q2
      obtain ⟨j, rfl, z1, z2, rfl⟩ := rng1_ok e
      obtain ⟨v, rfl, r3⟩ := r2.one
      rw [R] at r3
      subst r3
      exact ⟨j, rfl, by omega, by omega, q2 w2 _ H2 g F2.rh walks_range⟩
theorem i_range2 (hm : X.mg "range" = none) (ha : PA X [a, b] (tA X.K Wx mr)) (hg : Gl X "range" := by rfl) (hs : starEach [a, b] X.env = [(false, eval a X.env), (false, eval b X.env)] := by rfl) (hs2 : starEach [b] X.env = [(false, eval b X.env)] := by rfl) :
    PI X tg (.Call (.Name "range" p) [a, b] [] pos) (tI X.K Wx (mFnL rng2 mr)) :=
  piI (pi_range2 hg hm ha hs hs2) fun σ H Q ⟨fr, w, P, env, h, F, q⟩ => oneI F q fun ds w2 h2 x H2 F2 r2 g q2 => by
    cases e : rng2 ds with
    | none => rw [e] at q2; exact q2.elim
    | some xs =>
      rw [e] at q2
      obtain ⟨i, j, rfl, z, rfl⟩ := rng2_ok e
      obtain ⟨v, v', rfl, r3, r4⟩ := r2.two
      rw [R] at r3
      rw [R] at r4
      subst r3 r4
      exact ⟨i, j, rfl, ⟨by omega, by omega, by omega, by omega⟩, q2 w2 _ H2 g F2.rh walks_range⟩
/-! ### targets -/
/-- a target's way on slots -/
def SG (K : PySem.W.Frag) (g : TG) (as : D → Env' → Option Env') : Prop := ∀ fr w P env h σ H d x env' (Q : L2.St → Hp → Prop), RelF K fr w P env h σ H → R w (Bu fr.O P w) H d x → as d env = some env' → (∀ σ', RelF K fr w P env' h σ' H → Q σ' H) → g x σ H Q
def asN (i : Nat) : D → Env' → Option Env' := fun d env => some (env.set i (.val d))
theorem sg_name {K : PySem.W.Frag} {i : Nat} : SG K (gName i) (asN i) := by
  intro fr w P env h σ H d x env' Q F r e q
  cases e
  exact q _ (F.set r)
/-- names in a row -/
def asL : List Nat → List D → Env' → Option Env'
  | [], [], env => some env
  | i :: is, d :: ds, env => asL is ds (env.set i (.val d))
  | _, _, _ => none
def asT (is : List Nat) : D → Env' → Option Env'
  | .tup ds, env => asL is ds env
  | _, _ => none
def gNames : List Nat → TGs
  | [] => gNil
  | i :: is => gCons (gName i) (gNames is)
theorem sg_names {K : PySem.W.Frag} : ∀ (is : List Nat) fr w P env h σ H ds xs env' (Q : L2.St → Hp → Prop), RelF K fr w P env h σ H → RL w (Bu fr.O P w) H ds xs → asL is ds env = some env' → (∀ σ', RelF K fr w P env' h σ' H → Q σ' H) → gNames is xs σ H Q
  | [], fr, w, P, env, h, σ, H, ds, xs, env', Q, F, r, e, q => by
    cases ds with
    | nil =>
      rw [RL] at r
      cases e
      exact ⟨r, q σ F⟩
    | cons d ds => cases e
  | i :: is, fr, w, P, env, h, σ, H, ds, xs, env', Q, F, r, e, q => by
    cases ds with
    | nil => cases e
    | cons d ds =>
      rw [RL] at r
      obtain ⟨v, t, rfl, r1, r2⟩ := r
      exact ⟨v, t, rfl, sg_names is fr w P _ h _ H ds t env' Q (F.set r1) r2 e q⟩
theorem asL_len : ∀ {is : List Nat} {ds : List D} {env env' : Env'}, asL is ds env = some env' → ds.length = is.length
  | [], [], _, _, _ => rfl
  | [], _ :: _, _, _, e => by cases e
  | _ :: _, [], _, _, e => by cases e
  | _ :: is, _ :: ds, env, env', e => by
    have := asL_len (is := is) (ds := ds) e
    simp [this]
theorem sg_tup {K : PySem.W.Frag} {is : List Nat} : SG K (gTup K is.length (gNames is)) (asT is) := by
  intro fr w P env h σ H d x env' Q F r e q
  cases d with
  | tup ds =>
    rw [R] at r
    obtain ⟨a, vs, rfl, nb, e1, rl⟩ := r
    exact ⟨a, vs, rfl, .of e1, by rw [rl.len]; exact asL_len e, sg_names is fr w P env h σ H ds vs env' Q F rl e q⟩
  | _ => cases e
/-! ### for -/
def loopF (as : D → Env' → Option Env') (body : MS) : List D → MS
  | [], env, h => .next env h
  | d :: ds, env, h => match as d env with
    | none => .stuck
    | some env1 => match body env1 h with
      | .next env2 h2 => loopF as body ds env2 h2
      | .cnt env2 h2 => loopF as body ds env2 h2
      | .brk env2 h2 => .next env2 h2
      | r => r
def mFor (it : M (List D)) (as : D → Env' → Option Env') (body : MS) : MS := fun env h => bndS (it env h) env fun ds h => loopF as body ds env h
theorem RelF.busy {K : PySem.W.Frag} {fr : Fr} {w : Wd} {P : Addr → Prop} {env : Env'} {h : AH} {σ : L2.St} {H : Hp} (F : RelF K fr w P env h σ H) : ∀ a, Bu fr.O P w a → H a ≠ none := fun a z => by
  rcases z with z | z | z
  · exact (F.ow z).1
  · exact (F.pp a z).2.1
  · exact F.rh.wi a z
theorem RelF.more {K : PySem.W.Frag} {fr : Fr} {w : Wd} {P : Addr → Prop} {env : Env'} {h : AH} {σ : L2.St} {H H' : Hp} (F : RelF K fr w P env h σ H) (k : ∀ a o, H a = some o → H' a = some o) (al : ∀ a, H' a = none → H a = none) : RelF K fr w P env h σ H' ∧ Grow w H w H' := by
  have g : Grow w H w H' := ⟨.refl, fun _ z => z, fun _ z => .inl z, fun a o z _ => k a o z, al⟩
  exact ⟨F.grow g (F.rh.keep (fun a o z _ => k a o z) g.keepB), g⟩
theorem s_for {g : TG} {as : D → Env' → Option Env'} {mi : M (List D)} (hp : PassesOwn (model X.prog X.w) X.A X.env X.xe) (hi : PI X tg iter (tI X.K Wx mi)) (hg : PG X tg g) (sg : SG X.K g as) (hb : PSs X body (tS X.K Wx m)) (hc : X.calm = true := by rfl)
    (hs : ∀ x, foldedSetIterable iter X.env x = pure x := by intro _; rfl) : PS X (.For tg iter body [] pos) (tS X.K Wx (mFor mi as m)) := by
  refine psI (ps_for hp hc hi hg hb hs) fun D σ H ⟨fr, w, P, env, h, F, q⟩ => ⟨fr, w, P, env, h, F, ?_⟩
  unfold mFor at q
  revert q
  cases mi env h with
  | exc c h' => exact fun q w' H' g rh => q w' P σ H' (F.grow g rh) g.kw
  | stuck => exact id
  | ok ds h' =>
    intro q w1 J H1 g1 rh1 wk
    have F1 := F.grow g1 rh1
    have q1 : sX X.K Wx fr w1 P H1 (loopF as m ds env h') D := sX.on g1.kw q
    refine ⟨fun i n σ' H' => ∃ w' P' env' h'', RelF X.K fr w' P' env' h'' σ' H' ∧ Kw fr.O P w1 H1 P' w' H' ∧ i + n = ds.length ∧ sX X.K Wx fr w' P' H' (loopF as m (ds.drop i) env' h'') D,
      ⟨ds.length, w1, P, env, h', F1, .refl, by omega, q1⟩, fun i n σ2 H2 ⟨w2, P2, env2, h2, F2, k2, en, q2⟩ => ?_⟩
    obtain ⟨stop, go⟩ := wk w2 _ H2 k2.1 k2.2 F2.busy i
    by_cases hlt : i < ds.length
    · have ei : ds[i]? = some ds[i] := List.getElem?_eq_getElem hlt
      obtain ⟨go1, go2⟩ := go _ ei
      rw [List.drop_eq_getElem_cons hlt] at q2
      refine .inr ⟨go1, fun σ' H' => ∃ w' P' env' h'', RelF X.K fr w' P' env' h'' σ' H' ∧ Kw fr.O P w1 H1 P' w' H' ∧ sX X.K Wx fr w' P' H' (loopF as m (ds.drop (i + 1)) env' h'') D,
        fun σ' H' ⟨w', P', env', h'', z1, z3, z4⟩ => ⟨n - 1, by omega, w', P', env', h'', z1, z3, by omega, z4⟩, fun x H3 y => ?_⟩
      obtain ⟨y1, y2, r3⟩ := go2 x H3 y
      obtain ⟨F3, g3⟩ := F2.more y1 y2
      unfold loopF at q2
      cases e4 : as ds[i] env2 with
      | none => rw [e4] at q2; exact q2.elim
      | some env4 =>
        rw [e4] at q2
        refine sg fr w2 P2 env2 h2 σ2 H3 ds[i] x env4 _ F3 r3 e4 fun σ4 F4 => ⟨fr, w2, P2, env4, h2, F4, ?_⟩
        have q3 := sX.on g3.kw q2
        dsimp only at q3
        have k3 : Kw fr.O P w1 H1 P2 w2 H3 := k2.trans g3.kw
        revert q3
        cases m env4 h2 with
        | next env5 h5 => exact fun q3 w5 P5 σ5 H5 F5 k5 => ⟨w5, P5, env5, h5, F5, k3.trans k5, sX.on k5 q3⟩
        | cnt env5 h5 => exact fun q3 w5 P5 σ5 H5 F5 k5 => ⟨w5, P5, env5, h5, F5, k3.trans k5, sX.on k5 q3⟩
        | brk env5 h5 => exact id
        | ret d h5 => exact id
        | retN ds h5 => exact id
        | exc c env5 h5 => exact id
        | stuck => exact id
    · have z : ds.length ≤ i := by omega
      rw [List.drop_of_length_le z] at q2
      exact .inl ⟨stop z, sX.go F2 .refl q2⟩
end
end Fx

namespace Fx
open PySem
open L2
/-! ### slots forgotten -/
def wipeE (env : Env') : List Nat → Env'
  | [] => env
  | v :: vs => (wipeE env vs).set v .none
section
variable {K : PySem.W.Frag} {Wx : WX} {fr : Fr} {w w1 : Wd} {P P1 : Addr → Prop} {env : Env'} {h h1 : AH} {σ : L2.St} {H H1 : Hp}
theorem RelF.unset {i : Nat} (F : RelF K fr w P env h σ H) : RelF K fr w P (env.set i .none) h (σ.set i none) H where
  rh := F.rh
  gr := F.gr
  ob := F.ob
  pp := F.pp
  sl := fun j s e => by
    by_cases hj : i = j
    · subst hj
      by_cases hl : i < env.length
      · rw [List.getElem?_set_self hl] at e
        cases e
        trivial
      · rw [List.getElem?_eq_none (by simpa using hl)] at e
        cases e
    · rw [List.getElem?_set_ne hj] at e ⊢
      exact F.sl j s e
  inj := fun j l ds es p e1 e2 e3 e4 => by
    have nj : ∀ {m : Nat} {ds : List D}, (env.set i .none)[m]? = some (.own ds) → i ≠ m := fun {m ds} e z => by
      subst z
      by_cases hl : i < env.length
      · rw [List.getElem?_set_self hl] at e; cases e
      · rw [List.getElem?_eq_none (by simpa using hl)] at e; cases e
    have n1 := nj e1
    have n2 := nj e2
    rw [List.getElem?_set_ne n1] at e1 e3
    rw [List.getElem?_set_ne n2] at e2 e4
    exact F.inj j l ds es p e1 e2 e3 e4
  len := by rw [List.length_set, List.length_set]; exact F.len
theorem RelF.wipe (F : RelF K fr w P env h σ H) : ∀ vs : List Nat, RelF K fr w P (wipeE env vs) h (wipe σ vs) H
  | [] => F
  | v :: vs => (RelF.wipe F vs).unset
/-- one more place of our own -/
theorem RelF.addP {p : Addr} {o : HO} (F : RelF K fr w P env h σ H) (n : H p = none) : RelF K fr w (fun a => P a ∨ a = p) env h σ (upd H p o) where
  rh := F.laidN n
  gr := F.gr.trans (Grow.laid n)
  ob := F.ob
  pp := fun a z => by
    rcases z with z | z
    · obtain ⟨z1, z2, z3⟩ := F.pp a z
      refine ⟨z1, ?_, z3⟩
      unfold upd
      split
      · simp
      · exact z2
    · subst z
      exact ⟨F.gr.all _ n, by rw [upd_same]; simp, fun y => F.rh.wi _ y n⟩
  sl := fun j s e => by
    have z := F.sl j s e
    cases s with
    | none => trivial
    | val d =>
      obtain ⟨v, z1, z2⟩ := z
      exact ⟨v, z1, R.keep .refl (keepN n) _ _ z2⟩
    | own es =>
      obtain ⟨q', us, z1, z2, z3, z4⟩ := z
      exact ⟨q', us, z1, .inl z2, by rw [upd_ne (ne_of_none z3 n)]; exact z3, RL.keep .refl (keepN n) _ _ z4⟩
  inj := F.inj
  len := F.len
/-- a list of our own that stands in no slot is changed -/
theorem RelF.chg {p : Addr} {xs ys : List V} (F : RelF K fr w P env h σ H) (hp : P p) (e : H p = some (.lst xs)) (no : ∀ (i : Nat) ds, env[i]? = some (.own ds) → σ[i]? ≠ some (some (.ref p))) : RelF K fr w P env h σ (upd H p (.lst ys)) := by
  have kp : Keep (Bu fr.O P w) H (Bu fr.O P w) (upd H p (.lst ys)) := fun a o q b => ⟨by rw [upd_ne (show a ≠ p from fun z => b (.inr (.inl (by rw [z]; exact hp))))]; exact q, b⟩
  obtain ⟨p1, p2, p3⟩ := F.pp p hp
  refine ⟨F.rh.keep (fun a o q wa => ?_) kp, ⟨F.gr.rho, F.gr.sub, F.gr.new, fun a o q nw => ?_, fun a q => ?_⟩, F.ob, fun a z => ?_, fun j s q => ?_, F.inj, F.len⟩
  · rw [upd_ne (show a ≠ p from fun z => p3 (by rw [← z]; exact wa))]
    exact q
  · rw [upd_ne (fun z => by rw [z, p1] at q; cases q)]
    exact F.gr.keep a o q nw
  · by_cases z : a = p
    · subst z; exact p1
    · rw [upd_ne z] at q
      exact F.gr.all a q
  · obtain ⟨z1, z2, z3⟩ := F.pp a z
    refine ⟨z1, ?_, z3⟩
    unfold upd
    split
    · simp
    · exact z2
  · have z := F.sl j s q
    cases s with
    | none => trivial
    | val d =>
      obtain ⟨v, z1, z2⟩ := z
      exact ⟨v, z1, R.keep .refl kp _ _ z2⟩
    | own es =>
      obtain ⟨q', us, z1, z2, z3, z4⟩ := z
      refine ⟨q', us, z1, z2, ?_, RL.keep .refl kp _ _ z4⟩
      rw [upd_ne (fun z => no j es q (by rw [z1, z]))]
      exact z3
end
/-! ### comprehensions -/
def lcLoop (as : D → Env' → Option Env') (t : M Bool) (e : M D) : List D → M (List D)
  | [], _, h => .ok [] h
  | d :: ds, env, h => match as d env with
    | none => .stuck
    | some env1 => match t env1 h with
      | .ok true h1 => (match e env1 h1 with
        | .ok y h2 => (match lcLoop as t e ds env h2 with
          | .ok ys h3 => .ok (y :: ys) h3
          | _ => .stuck)
        | _ => .stuck)
      | .ok false h1 => lcLoop as t e ds env h1
      | _ => .stuck
def mLc (it : M (List D)) (vs : List Nat) (as : D → Env' → Option Env') (t : M Bool) (e : M D) : M (List D) := fun env h => bnd (it env h) fun ds h => if ds.length ≤ sizeLine then lcLoop as t e ds (wipeE env vs) h else .stuck
def SGc (K : PySem.W.Frag) (g : TG) (as : D → Env' → Option Env') (vs : List Nat) : Prop := ∀ fr w P env h σ H d x env' (Q : L2.St → Hp → Prop), RelF K fr w P env h σ H → R w (Bu fr.O P w) H d x → as d env = some env' → (∀ σ', RelF K fr w P env' h σ' H → wipe σ' vs = wipe σ vs → Q σ' H) → g x σ H Q
theorem wipe_at {σ : L2.St} : ∀ {vs : List Nat} (i : Nat), (wipe σ vs)[i]? = if i ∈ vs then (σ[i]?).map (fun _ => none) else σ[i]?
  | [], i => by simp [wipe]
  | v :: vs, i => by
    unfold wipe
    have ih := wipe_at (σ := σ) (vs := vs) i
    by_cases hv : v = i
    · subst hv
      rw [if_pos (by simp)]
      by_cases hl : v < σ.length
      · rw [List.getElem?_set_self (by rw [wipe_length]; exact hl), List.getElem?_eq_getElem hl]
        rfl
      · rw [List.getElem?_eq_none (by simpa [wipe_length] using hl), List.getElem?_eq_none (by simpa using hl)]
        rfl
    · rw [List.getElem?_set_ne hv, ih]
      have : (i ∈ v :: vs) ↔ i ∈ vs := by simp [Ne.symm hv]
      simp [this]
theorem wipe_set {σ : L2.St} {vs : List Nat} {i : Nat} {v : Option V} (h : i ∈ vs) : wipe (σ.set i v) vs = wipe σ vs := by
  apply List.ext_getElem?
  intro j
  rw [wipe_at, wipe_at]
  by_cases hj : j ∈ vs
  · rw [if_pos hj, if_pos hj]
    by_cases e : i = j
    · subst e
      by_cases hl : i < σ.length
      · rw [List.getElem?_set_self hl, List.getElem?_eq_getElem hl]; rfl
      · rw [List.getElem?_eq_none (by simpa using hl), List.getElem?_eq_none (by simpa using hl)]
    · rw [List.getElem?_set_ne e]
  · rw [if_neg hj, if_neg hj]
    rw [List.getElem?_set_ne (show i ≠ j from fun e => hj (by rw [← e]; exact h))]
theorem wipe_wipe {σ : L2.St} {vs : List Nat} : wipe (wipe σ vs) vs = wipe σ vs := by
  apply List.ext_getElem?
  intro j
  rw [wipe_at]
  by_cases hj : j ∈ vs
  · rw [if_pos hj, wipe_at, if_pos hj]
    cases σ[j]? <;> rfl
  · rw [if_neg hj]
theorem sgc_name {K : PySem.W.Frag} {i : Nat} {vs : List Nat} (hi : i ∈ vs) : SGc K (gName i) (asN i) vs := by
  intro fr w P env h σ H d x env' Q F r e q
  cases e
  exact q _ (F.set r) (wipe_set hi)
theorem sgc_names {K : PySem.W.Frag} {vs : List Nat} : ∀ (is : List Nat), (∀ i ∈ is, i ∈ vs) → ∀ fr w P env h σ H ds xs env' (Q : L2.St → Hp → Prop), RelF K fr w P env h σ H → RL w (Bu fr.O P w) H ds xs → asL is ds env = some env' → (∀ σ', RelF K fr w P env' h σ' H → wipe σ' vs = wipe σ vs → Q σ' H) → gNames is xs σ H Q
  | [], _, fr, w, P, env, h, σ, H, ds, xs, env', Q, F, r, e, q => by
    cases ds with
    | nil =>
      rw [RL] at r
      cases e
      exact ⟨r, q σ F rfl⟩
    | cons d ds => cases e
  | i :: is, hi, fr, w, P, env, h, σ, H, ds, xs, env', Q, F, r, e, q => by
    cases ds with
    | nil => cases e
    | cons d ds =>
      rw [RL] at r
      obtain ⟨v, t, rfl, r1, r2⟩ := r
      exact ⟨v, t, rfl, sgc_names is (fun j hj => hi j (List.mem_cons_of_mem _ hj)) fr w P _ h _ H ds t env' Q (F.set r1) r2 e fun σ' F' e' => q σ' F' (e'.trans (wipe_set (hi i List.mem_cons_self)))⟩
theorem sgc_tup {K : PySem.W.Frag} {is vs : List Nat} (hi : ∀ i ∈ is, i ∈ vs) : SGc K (gTup K is.length (gNames is)) (asT is) vs := by
  intro fr w P env h σ H d x env' Q F r e q
  cases d with
  | tup ds =>
    rw [R] at r
    obtain ⟨a, us, rfl, nb, e1, rl⟩ := r
    exact ⟨a, us, rfl, .of e1, by rw [rl.len]; exact asL_len e, sgc_names is hi fr w P env h σ H ds us env' Q F rl e q⟩
  | _ => cases e
/-- nothing is let out -/
abbrev W0 : WX := fun _ _ _ _ => False
section
variable {X : Cx} {Wx : WX} {elt tg iter : Expr} {ifs : List Expr} {scope : Scope} {own : List (Str × Nat)} {pos : Pos} {g : TG} {as : D → Env' → Option Env'} {mi : M (List D)} {mt : M Bool} {me : M D}
theorem wipeE_own {env : Env'} : ∀ {vs : List Nat} {i : Nat} {ds : List D}, (wipeE env vs)[i]? = some (.own ds) → env[i]? = some (.own ds) ∧ i ∉ vs
  | [], i, ds, e => ⟨e, by simp⟩
  | v :: vs, i, ds, e => by
    unfold wipeE at e
    by_cases hv : v = i
    · subst hv
      by_cases hl : v < (wipeE env vs).length
      · rw [List.getElem?_set_self hl] at e; cases e
      · rw [List.getElem?_eq_none (by simpa using hl)] at e; cases e
    · rw [List.getElem?_set_ne hv] at e
      obtain ⟨e1, e2⟩ := wipeE_own e
      exact ⟨e1, by simp only [List.mem_cons, not_or]; exact ⟨fun z => hv z.symm, e2⟩⟩
theorem lc_imp {vs : List Nat} (sg : SGc X.K g as vs) (σ : L2.St) (H : Hp) (Q : VK) (q0 : tL X.K Wx (mLc mi vs as mt me) σ H Q) : tLc (tI X.K Wx mi) g (tB X.K W0 mt) (tE X.K W0 me) vs σ H Q := by
  obtain ⟨fr, w, P, env, h, F, q⟩ := q0
  refine ⟨fr, w, P, env, h, F, ?_⟩
  unfold mLc at q
  revert q
  cases mi env h with
  | exc c h' => exact id
  | stuck => exact id
  | ok ds h' =>
    intro q w1 J H1 g1 rh1 wk Dd n
    dsimp only [bnd] at q
    split at q
    · rename_i hsz
      cases etot : lcLoop as mt me ds (wipeE env vs) h' with
      | stuck => rw [etot] at q; exact q.elim
      | exc c hE =>
        exfalso
        clear q
        revert etot
        induction ds generalizing h' with
        | nil => intro e; cases e
        | cons d ds ih =>
          intro e
          unfold lcLoop at e
          split at e
          · cases e
          · split at e
            · split at e
              · split at e <;> cases e
              · cases e
            · exact absurd e (fun z => by
                have aux : ∀ (ds : List D) (h : AH), lcLoop as mt me ds (wipeE env vs) h ≠ .exc c hE := by
                  intro ds
                  induction ds with
                  | nil => intro h e; cases e
                  | cons d ds ih =>
                    intro h e
                    unfold lcLoop at e
                    split at e
                    · cases e
                    · split at e
                      · split at e
                        · split at e <;> cases e
                        · cases e
                      · exact ih _ e
                      · cases e
                exact aux _ _ z)
            · cases e
      | ok total hE =>
        rw [etot] at q
        have F1 : RelF X.K fr w1 P (wipeE env vs) h' (wipe σ vs) H1 := (F.grow g1 rh1).wipe vs
        have F1' := F1.addP (o := .lst []) n
        refine ⟨fun i k H' => ∃ w' h'' acc accV ys, RelF X.K fr w' (fun a => P a ∨ a = Dd) (wipeE env vs) h'' (wipe σ vs) H' ∧ Grow w1 H1 w' H' ∧ H' Dd = some (.lst accV) ∧ RL w' (Bu fr.O (fun a => P a ∨ a = Dd) w') H' acc accV ∧
          lcLoop as mt me (ds.drop i) (wipeE env vs) h'' = .ok ys hE ∧ acc ++ ys = total ∧ i + k = ds.length ∧ acc.length ≤ i, ⟨ds.length, w1, h', [], [], total, F1', Grow.laid n, upd_same, by rw [RL], etot, rfl, by omega, by simp⟩, ?_⟩
        rintro i k H2 ⟨w2, h2, acc, accV, ys, F2, g2, eD, rA, eL, eT, ek, el⟩
        have k2 : Keep (Bu fr.O P w1) H1 (Bu fr.O (fun a => P a ∨ a = Dd) w2) H2 := fun a o z b => by
          refine ⟨g2.keep a o z fun y => b (.inr (.inr y)), ?_⟩
          rintro (y | (y | y) | y)
          · exact b (.inl y)
          · exact b (.inr (.inl y))
          · subst y; rw [n] at z; cases z
          · rcases g2.new a y with y | y
            · exact b (.inr (.inr y))
            · rw [z] at y; cases y
        obtain ⟨stop, go⟩ := wk w2 _ H2 g2.rho k2 F2.busy i
        have noD : ∀ {env' : Env'} {σ' : L2.St} {H' : Hp} {w' : Wd} {h'' : AH}, True := trivial
        by_cases hlt : i < ds.length
        · have ei : ds[i]? = some ds[i] := List.getElem?_eq_getElem hlt
          obtain ⟨go1, go2⟩ := go _ ei
          rw [List.drop_eq_getElem_cons hlt] at eL
          refine .inr ⟨go1, fun H' => ∃ w' h'' acc accV ys, RelF X.K fr w' (fun a => P a ∨ a = Dd) (wipeE env vs) h'' (wipe σ vs) H' ∧ Grow w1 H1 w' H' ∧ H' Dd = some (.lst accV) ∧ RL w' (Bu fr.O (fun a => P a ∨ a = Dd) w') H' acc accV ∧
            lcLoop as mt me (ds.drop (i + 1)) (wipeE env vs) h'' = .ok ys hE ∧ acc ++ ys = total ∧ acc.length ≤ i + 1,
            fun H' ⟨w', h'', acc, accV, ys, z1, z2, z3, z4, z5, z6, z7⟩ => ⟨k - 1, by omega, w', h'', acc, accV, ys, z1, z2, z3, z4, z5, z6, by omega, z7⟩, fun x H3 y => ?_⟩
          obtain ⟨y1, y2, r3⟩ := go2 x H3 y
          obtain ⟨F3, g3⟩ := F2.more y1 y2
          unfold lcLoop at eL
          cases e4 : as ds[i] (wipeE env vs) with
          | none => rw [e4] at eL; cases eL
          | some env4 =>
            rw [e4] at eL
            refine sg fr w2 _ _ h2 (wipe σ vs) H3 ds[i] x env4 _ F3 r3 e4 fun σ4 F4 ew => ⟨ew.trans wipe_wipe, fr, w2, _, env4, h2, F4, ?_⟩
            dsimp only at eL
            have rA3 : RL w2 (Bu fr.O (fun a => P a ∨ a = Dd) w2) H3 acc accV := RL.keep .refl g3.keepB _ _ rA
            have eD3 : H3 Dd = some (.lst accV) := y1 _ _ eD
            -- back to the comprehension's own slots
            have back : ∀ {w5 : Wd} {h5 : AH} {H5 : Hp}, Grow w2 H3 w5 H5 → RelH X.K w5 (Bu fr.O (fun a => P a ∨ a = Dd) w5) h5 H5 → RelF X.K fr w5 (fun a => P a ∨ a = Dd) (wipeE env vs) h5 (wipe σ vs) H5 := fun g rh => F3.grow g rh
            cases et : mt env4 h2 with
            | exc c h5 => rw [et] at eL; cases eL
            | stuck => rw [et] at eL; cases eL
            | ok b h5 =>
              intro w5 b' H5 g5 rh5 eb
              cases (show b = b' from eb)
              rw [et] at eL
              have F5 := back g5 rh5
              have F45 := F4.grow g5 rh5
              have eD5 : H5 Dd = some (.lst accV) := g5.keep _ _ eD3 (F3.pp Dd (.inr rfl)).2.2
              have rA5 := RL.keep g5.rho g5.keepB _ _ rA3
              cases b with
              | false =>
                rw [if_neg (by simp)]
                exact ⟨w5, h5, acc, accV, ys, F5, (g2.trans g3).trans g5, eD5, rA5, eL, eT, by omega⟩
              | true =>
                rw [if_pos rfl]
                refine ⟨fr, w5, _, env4, h5, F45, ?_⟩
                dsimp only at eL
                cases ee : me env4 h5 with
                | exc c h6 => rw [ee] at eL; cases eL
                | stuck => rw [ee] at eL; cases eL
                | ok y h6 =>
                  intro w6 v H6 g6 rh6 r6
                  rw [ee] at eL
                  dsimp only at eL
                  have F6 := F5.grow g6 rh6
                  have eD6 : H6 Dd = some (.lst accV) := g6.keep _ _ eD5 (F5.pp Dd (.inr rfl)).2.2
                  have rA6 := RL.keep g6.rho g6.keepB _ _ rA5
                  cases er : lcLoop as mt me (ds.drop (i + 1)) (wipeE env vs) h6 with
                  | exc c h7 => rw [er] at eL; cases eL
                  | stuck => rw [er] at eL; cases eL
                  | ok ys' h7 =>
                    rw [er] at eL
                    cases eL
                    have noSlot : ∀ (j : Nat) es, (wipeE env vs)[j]? = some (.own es) → (wipe σ vs)[j]? ≠ some (some (.ref Dd)) := fun j es z1 z2 => by
                      obtain ⟨p', us, a1, _, a3, _⟩ := F1.sl j _ z1
                      rw [z2] at a1
                      cases a1
                      rw [n] at a3
                      cases a3
                    have lenA := rA6.len
                    refine ⟨accV, eD6, ?_, w6, h6, acc ++ [y], accV ++ [v], ys', F6.chg (.inr rfl) eD6 noSlot, ?_, upd_same, ?_, er, by rw [← eT]; simp, by simp; omega⟩
                    · rw [lenA]
                      exact Nat.lt_of_le_of_lt el (Nat.lt_of_lt_of_le hlt hsz)
                    · refine ⟨(((g2.trans g3).trans g5).trans g6).rho, (((g2.trans g3).trans g5).trans g6).sub, (((g2.trans g3).trans g5).trans g6).new, fun a o z nw => ?_, fun a z => ?_⟩
                      · rw [upd_ne (ne_of_none z n)]
                        exact (((g2.trans g3).trans g5).trans g6).keep a o z nw
                      · by_cases zz : a = Dd
                        · subst zz; exact n
                        · rw [upd_ne zz] at z
                          exact (((g2.trans g3).trans g5).trans g6).all a z
                    · have kp : Keep (Bu fr.O (fun a => P a ∨ a = Dd) w6) H6 (Bu fr.O (fun a => P a ∨ a = Dd) w6) (upd H6 Dd (.lst (accV ++ [v]))) := fun a o z b => ⟨by rw [upd_ne (fun y => b (.inr (.inl (.inr y))))]; exact z, b⟩
                      exact RL.keep .refl kp _ _ (rA6.append (by rw [RL]; exact ⟨v, [], rfl, r6, by rw [RL]⟩))
        · have z : ds.length ≤ i := by omega
          rw [List.drop_of_length_le z] at eL
          cases eL
          rw [List.append_nil] at eT
          subst eT
          exact .inl ⟨stop z, q w2 Dd accV H2 (g1.trans g2) F2.rh (g1.all _ n) eD (F2.pp Dd (.inr rfl)).2.2 rA⟩
    · exact q.elim
theorem l_lc (hN : X.N.Nodup) (hi : PI X tg iter (tI X.K Wx mi)) (ok : BlkOk X.N X.env.scope scope own)
    (hg : ∀ (s : Shared) (H : Hp) (C : Addr) (cl : List (Str × Addr)) (fp : List Addr), PG (X.blk s H scope (PySem.compEnvC scope cl C X.env) fp) tg g)
    (sg : SGc X.K g as (own.map (·.2)))
    (ht : ∀ (s : Shared) (H : Hp) (C : Addr) (cl : List (Str × Addr)) (fp : List Addr), PTs (X.blk s H scope (PySem.compEnvC scope cl C X.env) fp) ifs (tB X.K W0 mt))
    (he : ∀ (s : Shared) (H : Hp) (C : Addr) (cl : List (Str × Addr)) (fp : List Addr), PE (X.blk s H scope (PySem.compEnvC scope cl C X.env) fp) elt (tE X.K W0 me)) (hc : X.calm = true := by rfl) (hs : ∀ x, foldedSetIterable iter X.env x = pure x := by intro _; rfl) :
    PE X (.ListComp elt [⟨tg, iter, ifs, 0⟩] scope pos) (tL X.K Wx (mLc mi (own.map (·.2)) as mt me)) := peI (pe_lc hc hN hi ok hg ht he hs) (lc_imp sg)
/-- a clause without a test -/
theorem ts_nil : PTs X [] (tB X.K Wx fun _ h => .ok true h) := ⟨fun pins s σ H Q I ⟨fr, w, P, env, h, F, q⟩ => pts_nil.run pins s σ H Q I (tX.fin F q rfl)⟩
end
end Fx

namespace Fx
open PySem
open L2
section
variable {K : PySem.W.Frag} {Wx : WX} {fr : Fr} {w w1 : Wd} {P P1 : Addr → Prop} {env : Env'} {h h1 : AH} {σ : L2.St} {H H1 : Hp}
theorem keepP {p : Addr} {o : HO} (hp : P p) : Keep (Bu fr.O P w) H (Bu fr.O P w) (upd H p o) := fun a o q b => ⟨by rw [upd_ne (show a ≠ p from fun z => b (.inr (.inl (by rw [z]; exact hp))))]; exact q, b⟩
/-- an own list is changed -/
theorem RelF.put {i : Nat} {ds es : List D} {p : Addr} {us : List V} (F : RelF K fr w P env h σ H) (e : env[i]? = some (.own ds)) (es' : σ[i]? = some (some (.ref p))) (r : RL w (Bu fr.O P w) H es us) :
    RelF K fr w P (env.set i (.own es)) h σ (upd H p (.lst us)) ∧ Kw fr.O P w H P w (upd H p (.lst us)) := by
  obtain ⟨p', vs, e1, hp, e2, _⟩ := F.sl i _ e
  rw [es'] at e1
  cases e1
  have kp : Keep (Bu fr.O P w) H (Bu fr.O P w) (upd H p (.lst us)) := keepP hp
  obtain ⟨p1, p2, p3⟩ := F.pp p hp
  have il : i < env.length := (List.getElem?_eq_some_iff.mp e).1
  refine ⟨⟨F.rh.keep (fun a o q wa => ?_) kp, ⟨F.gr.rho, F.gr.sub, F.gr.new, fun a o q nw => ?_, fun a q => ?_⟩, F.ob, fun a z => ?_, fun j s q => ?_, fun j l fs gs a a1 a2 a3 a4 => ?_, by rw [List.length_set]; exact F.len⟩, .refl, kp⟩
  · rw [upd_ne (show a ≠ p from fun z => p3 (by rw [← z]; exact wa))]
    exact q
  · rw [upd_ne (fun z => by rw [z, p1] at q; cases q)]
    exact F.gr.keep a o q nw
  · by_cases z : a = p
    · subst z; exact p1
    · rw [upd_ne z] at q
      exact F.gr.all a q
  · obtain ⟨z1, z2, z3⟩ := F.pp a z
    refine ⟨z1, ?_, z3⟩
    unfold upd
    split
    · simp
    · exact z2
  · by_cases hj : i = j
    · subst hj
      rw [List.getElem?_set_self il] at q
      cases q
      exact ⟨p, us, es', hp, upd_same, RL.keep .refl kp _ _ r⟩
    · rw [List.getElem?_set_ne hj] at q
      have z := F.sl j s q
      cases s with
      | none => trivial
      | val d =>
        obtain ⟨v, z1, z2⟩ := z
        exact ⟨v, z1, R.keep .refl kp _ _ z2⟩
      | own fs =>
        obtain ⟨q', us', z1, z2, z3, z4⟩ := z
        refine ⟨q', us', z1, z2, ?_, RL.keep .refl kp _ _ z4⟩
        rw [upd_ne (show q' ≠ p from fun z => hj (F.inj i j ds fs p e q es' (by rw [z1, z])))]
        exact z3
  · have old : ∀ {m : Nat} {gs : List D}, (env.set i (.own es))[m]? = some (.own gs) → ∃ gs', env[m]? = some (.own gs') := fun {m gs} q => by
      by_cases hm : i = m
      · subst hm; exact ⟨ds, e⟩
      · rw [List.getElem?_set_ne hm] at q; exact ⟨gs, q⟩
    obtain ⟨_, b1⟩ := old a1
    obtain ⟨_, b2⟩ := old a2
    exact F.inj j l _ _ a b1 b2 a3 a4
/-- an own list is not changed any more -/
theorem RelF.freeze {i : Nat} {ds : List D} (F : RelF K fr w P env h σ H) (e : env[i]? = some (.own ds)) : ∃ P', RelF K fr w P' (env.set i (.val (.lst ds))) h σ H ∧ Kw fr.O P w H P' w H := by
  obtain ⟨p, vs, e1, hp, e2, r⟩ := F.sl i _ e
  have il : i < env.length := (List.getElem?_eq_some_iff.mp e).1
  have sb : ∀ a, Bu fr.O (fun a => P a ∧ a ≠ p) w a → Bu fr.O P w a := fun a z => z.elim .inl fun z => z.elim (fun z => .inr (.inl z.1)) fun z => .inr (.inr z)
  have kp : Keep (Bu fr.O P w) H (Bu fr.O (fun a => P a ∧ a ≠ p) w) H := Keep.sub sb
  refine ⟨fun a => P a ∧ a ≠ p, ⟨F.rh.keep (fun _ _ e _ => e) kp, F.gr, F.ob, fun a z => F.pp a z.1, fun j s q => ?_, fun j l fs gs a a1 a2 a3 a4 => ?_, by rw [List.length_set]; exact F.len⟩, .refl, kp⟩
  · by_cases hj : i = j
    · subst hj
      rw [List.getElem?_set_self il] at q
      cases q
      refine ⟨.ref p, e1, ?_⟩
      rw [R]
      refine ⟨p, vs, rfl, ?_, e2, RL.keep .refl kp _ _ r⟩
      rintro (z | z | z)
      · exact (F.ob p z).1 (F.pp p hp).1
      · exact z.2 rfl
      · exact (F.pp p hp).2.2 z
    · rw [List.getElem?_set_ne hj] at q
      have z := F.sl j s q
      cases s with
      | none => trivial
      | val d =>
        obtain ⟨v, z1, z2⟩ := z
        exact ⟨v, z1, R.keep .refl kp _ _ z2⟩
      | own fs =>
        obtain ⟨q', us', z1, z2, z3, z4⟩ := z
        exact ⟨q', us', z1, ⟨z2, fun z => hj (F.inj i j ds fs p e q e1 (by rw [z1, z]))⟩, z3, RL.keep .refl kp _ _ z4⟩
  · have old : ∀ {m : Nat} {gs : List D}, (env.set i (.val (.lst ds)))[m]? = some (.own gs) → env[m]? = some (.own gs) := fun {m gs} q => by
      by_cases hm : i = m
      · subst hm; rw [List.getElem?_set_self il] at q; cases q
      · rw [List.getElem?_set_ne hm] at q; exact q
    exact F.inj j l _ _ a (old a1) (old a2) a3 a4
end
def mFrz (i : Nat) (m : MS) : MS := fun env h => match env[i]? with
  | some (.own ds) => m (env.set i (.val (.lst ds))) h
  | _ => .stuck
def ownAt (env : Env') (i : Nat) : Option (List D) := match env[i]? with
  | some (.own ds) => some ds
  | _ => none
theorem ownAt_ok {env : Env'} {i : Nat} {ds : List D} (h : ownAt env i = some ds) : env[i]? = some (.own ds) := by
  unfold ownAt at h
  split at h
  · rename_i e
    cases h
    exact e
  · cases h
/-- x.append(a) -/
def mApp (i : Nat) (a : M D) : MS := fun env h => match ownAt env i with
  | none => .stuck
  | some ds => bndS (a env h) env fun d h => if ds.length < sizeLine then .next (env.set i (.own (ds ++ [d]))) h else .stuck
/-- x.extend(a) -/
def mExt (i : Nat) (a : M D) : MS := fun env h => match ownAt env i with
  | none => .stuck
  | some ds => bndS (a env h) env fun d h => match d with
    | .lst es => if ds.length + es.length ≤ sizeLine then .next (env.set i (.own (ds ++ es))) h else .stuck
    | _ => .stuck
/-- x.insert(k, a), k written -/
def mIns (i : Nat) (a : M (List D)) : MS := fun env h => match ownAt env i with
  | none => .stuck
  | some ds => bndS (a env h) env fun xs h => match xs with
    | [.int j, d] => if ds.length < sizeLine ∧ 0 ≤ j ∧ j < 1000000 then .next (env.set i (.own (ds.take j.toNat ++ [d] ++ ds.drop j.toNat))) h else .stuck
    | _ => .stuck
/-- x[k] = a -/
def mPut (i : Nat) (a k : M D) : MS := fun env h => bndS (a env h) env fun d h => match ownAt env i with
  | none => .stuck
  | some ds => bndS (k env h) env fun k h => match k with
    | .int j => (match ixN ds.length j with
      | some l => .next (env.set i (.own (ds.set l d))) h
      | none => .stuck)
    | _ => .stuck
theorem RL.set {w : Wd} {B : Bz} {H : Hp} {d : D} {v : V} (r : R w B H d v) : ∀ {ds : List D} {vs : List V} (i : Nat), RL w B H ds vs → RL w B H (ds.set i d) (vs.set i v)
  | [], vs, i, h => by
    rw [RL] at h
    subst h
    simp only [List.set_nil]
    rw [RL]
  | c :: ds, vs, 0, h => by
    rw [RL] at h
    obtain ⟨u, t, rfl, h1, h2⟩ := h
    simp only [List.set_cons_zero]
    rw [RL]
    exact ⟨v, t, rfl, r, h2⟩
  | c :: ds, vs, i + 1, h => by
    rw [RL] at h
    obtain ⟨u, t, rfl, h1, h2⟩ := h
    simp only [List.set_cons_succ]
    rw [RL]
    exact ⟨u, _, rfl, h1, RL.set r i h2⟩
section
variable {X : Cx} {Wx : WX} {a b c e tg iter : Expr} {es : List Expr} {pos p apos : Pos} {ma mb mc : M D} {mt mu : M Bool} {mr ml : M (List D)} {mq mp : M Sq} {st : Stmt} {sts body : List Stmt} {m m' : MS}
theorem ss_frz (i : Nat) (h : PSs X sts (tS X.K Wx m)) : PSs X sts (tS X.K Wx (mFrz i m)) := pssI h fun D σ H ⟨fr, w, P, env, h, F, q⟩ => by
  unfold mFrz at q
  split at q
  · rename_i ds e
    obtain ⟨P', F', k⟩ := F.freeze e
    exact ⟨fr, w, P', _, h, F', sX.on k q⟩
  · exact q.elim
theorem own_recv {fr : Fr} {w : Wd} {P : Addr → Prop} {env : Env'} {h : AH} {σ : L2.St} {H : Hp} {i : Nat} {ds : List D} (F : RelF X.K fr w P env h σ H) (e : env[i]? = some (.own ds)) : ∃ p vs, σ[i]? = some (some (.ref p)) ∧ P p ∧ H p = some (.lst vs) ∧ RL w (Bu fr.O P w) H ds vs := F.sl i _ e
/-- a method of an own list, as a statement -/
theorem s_app (i : Nat) {x : Str} {px cpos : Pos} (ha : PE X e (tE X.K Wx ma)) (hN : X.N[i]? = some x := by rfl) (hv : Vis X.env.scope x := by first | exact Or.inl rfl | exact Or.inr (Or.inl rfl) | exact Or.inr (Or.inr rfl)) (hd : (x == ("__debug__" : Str)) = false := by decide)
    (hcd : (x == ("__classdict__" : Str)) = false := by decide) (hbase : attributeBase (.Name x px) "append" X.env (eval (.Name x px) X.env) = eval (.Name x px) X.env := by rfl)
    (hfew : ((backTo cpos (starEach [e] X.env)).all (fun x => !x.1) && (backToKw cpos (keywordEach [] X.env)).all (fun x => x.1.isSome) && decide ([e].length + ([] : List Keyword).length + (if ([] : List Keyword).isEmpty then 0 else 1) < 30)) = true := by rfl)
    (hline : (apos.endLine == cpos.line) = true := by rfl) (hs : starEach (e :: []) X.env = (false, eval e X.env) :: starEach [] X.env := by rfl) (hplain : (backTo cpos (starEach [] X.env)).any (·.1) = false := by rfl)
    (hsw : swapsWith (.Call (.Attribute (.Name x px) "append" apos) [e] [] cpos) none pos.line X.env = pure false := by rfl) :
    PS X (.Expr (.Call (.Attribute (.Name x px) "append" apos) [e] [] cpos) pos) (tS X.K Wx (mApp i ma)) := by
  refine psI (ps_expr (pe_bm PySem.F.plainAttrs_list PySem.F.slot_list_append PySem.F.type_list_append mt_append (pe_var hN hv hd hcd) (pa_cons ha pa_nil hs) hbase hfew hline hs hplain) hsw) fun D σ H ⟨fr, w, P, env, h, F, q⟩ => ?_
  unfold mApp at q
  cases eo : ownAt env i with
  | none => rw [eo] at q; exact q.elim
  | some ds =>
    rw [eo] at q
    dsimp only at q
    have e0 := ownAt_ok eo
    obtain ⟨p0, vs, e1, hp, e2, rl⟩ := own_recv F e0
    refine ⟨.ref p0, e1, .inl ⟨rfl, vs, .of e2⟩, ?_⟩
    refine oneS F q fun d w2 h2 x H2 F2 r2 g q2 => ?_
    split at q2
    · rename_i z
      obtain ⟨p', vs', e1', hp', e2', rl'⟩ := own_recv F2 e0
      rw [e1] at e1'
      cases e1'
      refine ⟨p0, vs', x, rfl, rfl, e2', by rw [rl'.len]; exact z, ?_⟩
      obtain ⟨F3, k⟩ := F2.put (es := ds ++ [d]) (us := vs' ++ [x]) e0 e1 (rl'.append (by rw [RL]; exact ⟨x, [], rfl, r2, by rw [RL]⟩))
      exact sX.go F3 k q2
    · exact q2.elim

theorem s_ext (i : Nat) {x : Str} {px cpos : Pos} (ha : PE X e (tE X.K Wx ma)) (hN : X.N[i]? = some x := by rfl) (hv : Vis X.env.scope x := by first | exact Or.inl rfl | exact Or.inr (Or.inl rfl) | exact Or.inr (Or.inr rfl)) (hd : (x == ("__debug__" : Str)) = false := by decide)
    (hcd : (x == ("__classdict__" : Str)) = false := by decide) (hbase : attributeBase (.Name x px) "extend" X.env (eval (.Name x px) X.env) = eval (.Name x px) X.env := by rfl)
    (hfew : ((backTo cpos (starEach [e] X.env)).all (fun x => !x.1) && (backToKw cpos (keywordEach [] X.env)).all (fun x => x.1.isSome) && decide ([e].length + ([] : List Keyword).length + (if ([] : List Keyword).isEmpty then 0 else 1) < 30)) = true := by rfl)
    (hline : (apos.endLine == cpos.line) = true := by rfl) (hs : starEach (e :: []) X.env = (false, eval e X.env) :: starEach [] X.env := by rfl) (hplain : (backTo cpos (starEach [] X.env)).any (·.1) = false := by rfl)
    (hsw : swapsWith (.Call (.Attribute (.Name x px) "extend" apos) [e] [] cpos) none pos.line X.env = pure false := by rfl) :
    PS X (.Expr (.Call (.Attribute (.Name x px) "extend" apos) [e] [] cpos) pos) (tS X.K Wx (mExt i ma)) := by
  refine psI (ps_expr (pe_bm PySem.F.plainAttrs_list PySem.F.slot_list_extend PySem.F.type_list_extend mt_extend (pe_var hN hv hd hcd) (pa_cons ha pa_nil hs) hbase hfew hline hs hplain) hsw) fun D σ H ⟨fr, w, P, env, h, F, q⟩ => ?_
  unfold mExt at q
  cases eo : ownAt env i with
  | none => rw [eo] at q; exact q.elim
  | some ds =>
    rw [eo] at q
    dsimp only at q
    have e0 := ownAt_ok eo
    obtain ⟨p0, vs, e1, hp, e2, rl⟩ := own_recv F e0
    refine ⟨.ref p0, e1, .inl ⟨rfl, vs, .of e2⟩, ?_⟩
    refine oneS F q fun d w2 h2 x H2 F2 r2 g q2 => ?_
    cases d with
    | lst es =>
      dsimp only at q2
      split at q2
      · rename_i z
        obtain ⟨p', vs', e1', hp', e2', rl'⟩ := own_recv F2 e0
        rw [e1] at e1'
        cases e1'
        rw [R] at r2
        obtain ⟨b, us, rfl, nb, hb, rlb⟩ := r2
        refine ⟨p0, b, vs', us, rfl, rfl, e2', hb, by rw [rl'.len, rlb.len]; exact z, ?_⟩
        obtain ⟨F3, k⟩ := F2.put (es := ds ++ es) (us := vs' ++ us) e0 e1 (rl'.append rlb)
        exact sX.go F3 k q2
      · exact q2.elim
    | _ => exact q2.elim
theorem s_ins (i : Nat) {x : Str} {px cpos : Pos} {e' : Expr} (ha : PA X [e, e'] (tA X.K Wx mr)) (hN : X.N[i]? = some x := by rfl) (hv : Vis X.env.scope x := by first | exact Or.inl rfl | exact Or.inr (Or.inl rfl) | exact Or.inr (Or.inr rfl)) (hd : (x == ("__debug__" : Str)) = false := by decide)
    (hcd : (x == ("__classdict__" : Str)) = false := by decide) (hbase : attributeBase (.Name x px) "insert" X.env (eval (.Name x px) X.env) = eval (.Name x px) X.env := by rfl)
    (hfew : ((backTo cpos (starEach [e, e'] X.env)).all (fun x => !x.1) && (backToKw cpos (keywordEach [] X.env)).all (fun x => x.1.isSome) && decide ([e, e'].length + ([] : List Keyword).length + (if ([] : List Keyword).isEmpty then 0 else 1) < 30)) = true := by rfl)
    (hline : (apos.endLine == cpos.line) = true := by rfl) (hs : starEach (e :: [e']) X.env = (false, eval e X.env) :: starEach [e'] X.env := by rfl) (hplain : (backTo cpos (starEach [e'] X.env)).any (·.1) = false := by rfl)
    (hsw : swapsWith (.Call (.Attribute (.Name x px) "insert" apos) [e, e'] [] cpos) none pos.line X.env = pure false := by rfl) :
    PS X (.Expr (.Call (.Attribute (.Name x px) "insert" apos) [e, e'] [] cpos) pos) (tS X.K Wx (mIns i mr)) := by
  refine psI (ps_expr (pe_bm PySem.F.plainAttrs_list PySem.F.slot_list_insert PySem.F.type_list_insert mt_insert (pe_var hN hv hd hcd) ha hbase hfew hline hs hplain) hsw) fun D σ H ⟨fr, w, P, env, h, F, q⟩ => ?_
  unfold mIns at q
  cases eo : ownAt env i with
  | none => rw [eo] at q; exact q.elim
  | some ds =>
    rw [eo] at q
    dsimp only at q
    have e0 := ownAt_ok eo
    obtain ⟨p0, vs, e1, hp, e2, rl⟩ := own_recv F e0
    refine ⟨.ref p0, e1, .inl ⟨rfl, vs, .of e2⟩, ?_⟩
    refine oneS F q fun xs w2 h2 x H2 F2 r2 g q2 => ?_
    split at q2
    · rename_i j d
      split at q2
      · rename_i z
        obtain ⟨v1, v2, rfl, r3, r4⟩ := r2.two
        rw [R] at r3
        subst r3
        obtain ⟨p', vs', e1', hp', e2', rl'⟩ := own_recv F2 e0
        rw [e1] at e1'
        cases e1'
        refine ⟨p0, vs', j, v2, rfl, rfl, e2', by rw [rl'.len]; exact z.1, z.2.1, by have := z.2.2; omega, ?_⟩
        obtain ⟨F3, k⟩ := F2.put (es := ds.take j.toNat ++ [d] ++ ds.drop j.toNat) (us := vs'.take j.toNat ++ [v2] ++ vs'.drop j.toNat) e0 e1 (((rl'.take _).append (by rw [RL]; exact ⟨v2, [], rfl, r4, by rw [RL]⟩)).append (rl'.drop _))
        exact sX.go F3 k q2
      · exact q2.elim
    · exact q2.elim
/-- x[k] = e -/
theorem s_put (i : Nat) {x : Str} {px : Pos} {k : Expr} {tpos : Pos} (he : PE X e (tE X.K Wx ma)) (hk : PE X k (tE X.K Wx mb)) (hN : X.N[i]? = some x := by rfl) (hv : Vis X.env.scope x := by first | exact Or.inl rfl | exact Or.inr (Or.inl rfl) | exact Or.inr (Or.inr rfl)) (hd : (x == ("__debug__" : Str)) = false := by decide)
    (hcd : (x == ("__classdict__" : Str)) = false := by decide)
    (has : ∀ v, assign (.Subscript (.Name x px) k tpos) X.env v = (do
      let ov ← holding [v] (eval (.Name x px) X.env)
      let iv ← holding [v, ov] (eval k X.env)
      standAt tpos
      holding [v, ov, iv] (setItem ov iv v)
      release [v, ov, iv] []) := by intro _; rfl)
    (hs : swapsWithSole [.Subscript (.Name x px) k tpos] e pos.line X.env = pure false := by rfl) (hw : swappedStores [.Subscript (.Name x px) k tpos] e X.env = pure none := by rfl) (h1 : (assignEach [.Subscript (.Name x px) k tpos] X.env).map (·.2) = [assign (.Subscript (.Name x px) k tpos) X.env] := by rfl) :
    PS X (.Assign [.Subscript (.Name x px) k tpos] e pos) (tS X.K Wx (mPut i ma mb)) := by
  refine psI (ps_asg he (pg_sub (pe_var hN hv hd hcd) hk set_list has) hs hw h1) fun D σ H ⟨fr, w, P, env, h, F, q⟩ => ?_
  refine oneS F q fun d w1 h1 y H1 F1 r1 g1 q1 => ?_
  cases eo : ownAt env i with
  | none => rw [eo] at q1; exact q1.elim
  | some ds =>
    rw [eo] at q1
    dsimp only at q1
    have e0 := ownAt_ok eo
    obtain ⟨p0, vs, e1, hp, e2, rl⟩ := own_recv F1 e0
    refine ⟨.ref p0, e1, ?_⟩
    refine oneS F1 q1 fun kk w2 h2 z H2 F2 r2 g2 q2 => ?_
    cases kk with
    | int j =>
      rw [R] at r2
      subst r2
      dsimp only at q2
      cases ej : ixN ds.length j with
      | none => rw [ej] at q2; exact q2.elim
      | some l =>
        rw [ej] at q2
        obtain ⟨p', vs', e1', hp', e2', rl'⟩ := own_recv F2 e0
        rw [e1] at e1'
        cases e1'
        refine ⟨p0, vs', j, l, rfl, rfl, e2', by rw [rl'.len]; exact ej, ?_⟩
        obtain ⟨F3, k⟩ := F2.put (es := ds.set l d) (us := vs'.set l y) e0 e1 (RL.set (R.keep g2.rho g2.keepB _ _ r1) l rl')
        exact sX.go F3 k q2
    | _ => exact q2.elim
end
end Fx

namespace Fx
open PySem
open L2
/-! ### expressions that change own lists -/
def tMx (K : PySem.W.Frag) (Wx : WX) (fr : Fr) (w : Wd) (P : Addr → Prop) (σ : L2.St) (H : Hp) (env : Env') (r : Res (D × Env')) (Q : VK) : Prop := match r with
  | .ok d h' => ∀ w' v H', RelF K fr w' P d.2 h' σ H' → Kw fr.O P w H P w' H' → R w' (Bu fr.O P w') H' d.1 v → Q v H'
  | .exc c h' => ∀ w' H', RelF K fr w' P env h' σ H' → Kw fr.O P w H P w' H' → Wx (.ref (He.ga K c.name)) none σ H'
  | .stuck => False
def tM (K : PySem.W.Frag) (Wx : WX) (m : M (D × Env')) : TE := fun σ H Q => ∃ fr w P env h, RelF K fr w P env h σ H ∧ tMx K Wx fr w P σ H env (m env h) Q
/-- x.pop() -/
def mPop (i : Nat) : M (D × Env') := fun env h => match ownAt env i with
  | none => .stuck
  | some ds => match ds[ds.length - 1]? with
    | some d => .ok (d, env.set i (.own ds.dropLast)) h
    | none => .stuck
/-- x.pop(a) -/
def mPopAt (i : Nat) (a : M D) : M (D × Env') := fun env h => match ownAt env i with
  | none => .stuck
  | some ds => bnd (a env h) fun k h => match k with
    | .int j => if -1000000 ≤ j ∧ j ≤ 1000000 then (match seqIndex? j ds.length with
      | some l => (match ds[l]? with
        | some d => .ok (d, env.set i (.own (ds.eraseIdx l))) h
        | none => .stuck)
      | none => .stuck) else .stuck
    | _ => .stuck
theorem RL.dropLast {w : Wd} {B : Bz} {H : Hp} {ds : List D} {vs : List V} (r : RL w B H ds vs) : RL w B H ds.dropLast vs.dropLast := by
  rw [List.dropLast_eq_take, List.dropLast_eq_take, r.len]
  exact r.take _
theorem RL.erase {w : Wd} {B : Bz} {H : Hp} : ∀ {ds : List D} {vs : List V} (i : Nat), RL w B H ds vs → RL w B H (ds.eraseIdx i) (vs.eraseIdx i)
  | [], vs, i, h => by
    rw [RL] at h
    subst h
    simp only [List.eraseIdx_nil]
    rw [RL]
  | c :: ds, vs, 0, h => by
    rw [RL] at h
    obtain ⟨u, t, rfl, h1, h2⟩ := h
    simp only [List.eraseIdx_cons_zero]
    exact h2
  | c :: ds, vs, i + 1, h => by
    rw [RL] at h
    obtain ⟨u, t, rfl, h1, h2⟩ := h
    simp only [List.eraseIdx_cons_succ]
    rw [RL]
    exact ⟨u, _, rfl, h1, RL.erase i h2⟩
section
variable {X : Cx} {Wx : WX} {a b c e tg iter : Expr} {es : List Expr} {pos p apos cpos : Pos} {ma mb mc : M D} {mt mu : M Bool} {mr ml : M (List D)} {mq mp : M Sq} {mm : M (D × Env')} {st : Stmt} {sts body : List Stmt} {m m' : MS}
theorem x_pop (i : Nat) {x : Str} {px : Pos} (hN : X.N[i]? = some x := by rfl) (hv : Vis X.env.scope x := by first | exact Or.inl rfl | exact Or.inr (Or.inl rfl) | exact Or.inr (Or.inr rfl)) (hd : (x == ("__debug__" : Str)) = false := by decide)
    (hcd : (x == ("__classdict__" : Str)) = false := by decide) (hbase : attributeBase (.Name x px) "pop" X.env (eval (.Name x px) X.env) = eval (.Name x px) X.env := by rfl) (hline : (apos.endLine == cpos.line) = true := by rfl) :
    PE X (.Call (.Attribute (.Name x px) "pop" apos) [] [] cpos) (tM X.K Wx (mPop i)) := by
  refine peI (pe_bm0 PySem.F.plainAttrs_list PySem.F.slot_list_pop PySem.F.type_list_pop mt_pop (pe_var hN hv hd hcd) hbase hline) fun σ H Q ⟨fr, w, P, env, h, F, q⟩ => ?_
  unfold mPop at q
  cases eo : ownAt env i with
  | none => rw [eo] at q; exact q.elim
  | some ds =>
    rw [eo] at q
    dsimp only at q
    have e0 := ownAt_ok eo
    obtain ⟨p0, vs, e1, hp, e2, rl⟩ := own_recv F e0
    refine ⟨.ref p0, e1, .inl ⟨rfl, vs, .of e2⟩, ?_⟩
    cases ed : ds[ds.length - 1]? with
    | none => rw [ed] at q; exact q.elim
    | some d =>
      rw [ed] at q
      obtain ⟨v, e3, r⟩ := at_ok _ rl ed
      refine ⟨p0, vs, v, rfl, rfl, e2, by rw [rl.len]; exact e3, ?_⟩
      obtain ⟨F3, k⟩ := F.put (es := ds.dropLast) (us := vs.dropLast) e0 e1 rl.dropLast
      exact q w v _ F3 k (R.keep .refl (keepP hp) _ _ r)
theorem x_popAt (i : Nat) {x : Str} {px : Pos} (ha : PE X e (tE X.K Wx ma)) (hN : X.N[i]? = some x := by rfl) (hv : Vis X.env.scope x := by first | exact Or.inl rfl | exact Or.inr (Or.inl rfl) | exact Or.inr (Or.inr rfl)) (hd : (x == ("__debug__" : Str)) = false := by decide)
    (hcd : (x == ("__classdict__" : Str)) = false := by decide) (hbase : attributeBase (.Name x px) "pop" X.env (eval (.Name x px) X.env) = eval (.Name x px) X.env := by rfl)
    (hfew : ((backTo cpos (starEach [e] X.env)).all (fun x => !x.1) && (backToKw cpos (keywordEach [] X.env)).all (fun x => x.1.isSome) && decide ([e].length + ([] : List Keyword).length + (if ([] : List Keyword).isEmpty then 0 else 1) < 30)) = true := by rfl)
    (hline : (apos.endLine == cpos.line) = true := by rfl) (hs : starEach (e :: []) X.env = (false, eval e X.env) :: starEach [] X.env := by rfl) (hplain : (backTo cpos (starEach [] X.env)).any (·.1) = false := by rfl) :
    PE X (.Call (.Attribute (.Name x px) "pop" apos) [e] [] cpos) (tM X.K Wx (mPopAt i ma)) := by
  refine peI (pe_bm PySem.F.plainAttrs_list PySem.F.slot_list_pop PySem.F.type_list_pop mt_popAt (pe_var hN hv hd hcd) (pa_cons ha pa_nil hs) hbase hfew hline hs hplain) fun σ H Q ⟨fr, w, P, env, h, F, q⟩ => ?_
  unfold mPopAt at q
  cases eo : ownAt env i with
  | none => rw [eo] at q; exact q.elim
  | some ds =>
    rw [eo] at q
    dsimp only at q
    have e0 := ownAt_ok eo
    obtain ⟨p0, vs, e1, hp, e2, rl⟩ := own_recv F e0
    refine ⟨.ref p0, e1, .inl ⟨rfl, vs, .of e2⟩, fr, w, P, env, h, F, ?_⟩
    revert q
    cases ma env h with
    | exc c h' => exact fun q w' H' g rh => q w' H' (F.grow g rh) g.kw
    | stuck => exact id
    | ok kk h' =>
      intro q w1 z H1 g1 rh1 r1
      have F1 := F.grow g1 rh1
      dsimp only [bnd] at q
      cases kk with
      | int j =>
        rw [R] at r1
        subst r1
        dsimp only at q
        split at q
        · rename_i zz
          cases ej : seqIndex? j ds.length with
          | none => rw [ej] at q; exact q.elim
          | some l =>
            rw [ej] at q
            dsimp only at q
            cases ed : ds[l]? with
            | none => rw [ed] at q; exact q.elim
            | some d =>
              rw [ed] at q
              obtain ⟨p', vs', e1', hp', e2', rl'⟩ := own_recv F1 e0
              rw [e1] at e1'
              cases e1'
              obtain ⟨v, e3, r⟩ := at_ok _ rl' ed
              refine ⟨p0, vs', j, l, v, rfl, rfl, e2', by omega, by omega, by rw [rl'.len]; exact ej, e3, ?_⟩
              obtain ⟨F3, k⟩ := F1.put (es := ds.eraseIdx l) (us := vs'.eraseIdx l) e0 e1 (rl'.erase l)
              exact q w1 v _ F3 (g1.kw.trans k) (R.keep .refl (keepP hp') _ _ r)
        · exact q.elim
      | _ => exact q.elim
def bndM (r : Res (D × Env')) (env : Env') (k : D → Env' → AH → SRes) : SRes := match r with
  | .ok d h => k d.1 d.2 h
  | .exc c h => .exc c env h
  | .stuck => .stuck
theorem oneM {fr : Fr} {w : Wd} {P : Addr → Prop} {env : Env'} {h : AH} {σ : L2.St} {H : Hp} {k : D → Env' → AH → SRes} {D : Ends} {G : VK}
    (F : RelF X.K fr w P env h σ H) (q : sX X.K Wx fr w P H (bndM (mm env h) env k) D)
    (hk : ∀ d env2 w2 h2 x H2, RelF X.K fr w2 P env2 h2 σ H2 → R w2 (Bu fr.O P w2) H2 d x → sX X.K Wx fr w2 P H2 (k d env2 h2) D → G x H2) : tM X.K Wx mm σ H G := by
  refine ⟨fr, w, P, env, h, F, ?_⟩
  revert q
  cases mm env h with
  | ok d h' => exact fun q w' v H' F' kw r => hk _ _ w' h' v H' F' r (sX.on kw q)
  | exc c h' => exact fun q w' H' F' kw => q w' P σ H' F' kw
  | stuck => exact id
def mSetM (i : Nat) (a : M (D × Env')) : MS := fun env h => bndM (a env h) env fun d env h => .next (env.set i (.val d)) h
theorem s_setM (i : Nat) {x : Str} {pos' : Pos} (hN : X.N.Nodup) (he : PE X e (tM X.K Wx mm)) (hi : X.N[i]? = some x := by rfl) (hx : Loc X.env.scope x := by first | exact Or.inl rfl | exact Or.inr rfl) (hs : swapsWith e (some (.Name x pos')) pos.line X.env = pure false := by rfl)
    (hf : X.fn x = true ∨ X.env.scope.names.lookup x = some .local := by first | exact .inl rfl | exact .inr rfl | assumption) : PS X (.Assign [.Name x pos'] e pos) (tS X.K Wx (mSetM i mm)) :=
  psI (ps_set hN hi hx he hs hf) fun D σ H ⟨fr, w, P, env, h, F, q⟩ => oneM F q fun d env2 w2 h2 x H2 F2 r2 q2 => sX.go (F2.set r2) .refl q2
/-- a, b = .. -/
def mSetT (as : D → Env' → Option Env') (a : M D) : MS := fun env h => bndS (a env h) env fun d h => match as d env with
  | some env' => .next env' h
  | none => .stuck
def mSetTM (as : D → Env' → Option Env') (a : M (D × Env')) : MS := fun env h => bndM (a env h) env fun d env h => match as d env with
  | some env' => .next env' h
  | none => .stuck
theorem s_setT {g : TG} {as : D → Env' → Option Env'} (he : PE X e (tE X.K Wx ma)) (hg : PG X tg g) (sg : SG X.K g as) (hs : swapsWithSole [tg] e pos.line X.env = pure false := by rfl) (hw : swappedStores [tg] e X.env = pure none := by rfl)
    (h1 : (assignEach [tg] X.env).map (·.2) = [assign tg X.env] := by rfl) : PS X (.Assign [tg] e pos) (tS X.K Wx (mSetT as ma)) :=
  psI (ps_asg he hg hs hw h1) fun D σ H ⟨fr, w, P, env, h, F, q⟩ => oneS F q fun d w2 h2 x H2 F2 r2 _ q2 => by
    cases e4 : as d env with
    | none => rw [e4] at q2; exact q2.elim
    | some env4 =>
      rw [e4] at q2
      exact sg fr w2 P env h2 σ H2 d x env4 _ F2 r2 e4 fun σ4 F4 => sX.go F4 .refl q2
theorem s_setTM {g : TG} {as : D → Env' → Option Env'} (he : PE X e (tM X.K Wx mm)) (hg : PG X tg g) (sg : SG X.K g as) (hs : swapsWithSole [tg] e pos.line X.env = pure false := by rfl) (hw : swappedStores [tg] e X.env = pure none := by rfl)
    (h1 : (assignEach [tg] X.env).map (·.2) = [assign tg X.env] := by rfl) : PS X (.Assign [tg] e pos) (tS X.K Wx (mSetTM as mm)) :=
  psI (ps_asg he hg hs hw h1) fun D σ H ⟨fr, w, P, env, h, F, q⟩ => oneM F q fun d env2 w2 h2 x H2 F2 r2 q2 => by
    cases e4 : as d env2 with
    | none => rw [e4] at q2; exact q2.elim
    | some env4 =>
      rw [e4] at q2
      exact sg fr w2 P env2 h2 σ H2 d x env4 _ F2 r2 e4 fun σ4 F4 => sX.go F4 .refl q2
/-- x.append(an expression that changes own lists) -/
def mAppM (i : Nat) (a : M (D × Env')) : MS := fun env h => match ownAt env i with
  | none => .stuck
  | some _ => bndM (a env h) env fun d env h => match ownAt env i with
    | none => .stuck
    | some ds => if ds.length < sizeLine then .next (env.set i (.own (ds ++ [d]))) h else .stuck
theorem s_appM (i : Nat) {x : Str} {px : Pos} (ha : PE X e (tM X.K Wx mm)) (hN : X.N[i]? = some x := by rfl) (hv : Vis X.env.scope x := by first | exact Or.inl rfl | exact Or.inr (Or.inl rfl) | exact Or.inr (Or.inr rfl)) (hd : (x == ("__debug__" : Str)) = false := by decide)
    (hcd : (x == ("__classdict__" : Str)) = false := by decide) (hbase : attributeBase (.Name x px) "append" X.env (eval (.Name x px) X.env) = eval (.Name x px) X.env := by rfl)
    (hfew : ((backTo cpos (starEach [e] X.env)).all (fun x => !x.1) && (backToKw cpos (keywordEach [] X.env)).all (fun x => x.1.isSome) && decide ([e].length + ([] : List Keyword).length + (if ([] : List Keyword).isEmpty then 0 else 1) < 30)) = true := by rfl)
    (hline : (apos.endLine == cpos.line) = true := by rfl) (hs : starEach (e :: []) X.env = (false, eval e X.env) :: starEach [] X.env := by rfl) (hplain : (backTo cpos (starEach [] X.env)).any (·.1) = false := by rfl)
    (hsw : swapsWith (.Call (.Attribute (.Name x px) "append" apos) [e] [] cpos) none pos.line X.env = pure false := by rfl) :
    PS X (.Expr (.Call (.Attribute (.Name x px) "append" apos) [e] [] cpos) pos) (tS X.K Wx (mAppM i mm)) := by
  refine psI (ps_expr (pe_bm PySem.F.plainAttrs_list PySem.F.slot_list_append PySem.F.type_list_append mt_append (pe_var hN hv hd hcd) (pa_cons ha pa_nil hs) hbase hfew hline hs hplain) hsw) fun D σ H ⟨fr, w, P, env, h, F, q⟩ => ?_
  unfold mAppM at q
  cases eo : ownAt env i with
  | none => rw [eo] at q; exact q.elim
  | some ds0 =>
    rw [eo] at q
    dsimp only at q
    have e00 := ownAt_ok eo
    obtain ⟨p0, vs, e1, hp, e2, rl⟩ := own_recv F e00
    refine ⟨.ref p0, e1, .inl ⟨rfl, vs, .of e2⟩, ?_⟩
    refine oneM F q fun d env2 w2 h2 x H2 F2 r2 q2 => ?_
    cases eo2 : ownAt env2 i with
    | none => rw [eo2] at q2; exact q2.elim
    | some ds =>
      rw [eo2] at q2
      dsimp only at q2
      have e0 := ownAt_ok eo2
      split at q2
      · rename_i z
        obtain ⟨p', vs', e1', hp', e2', rl'⟩ := own_recv F2 e0
        rw [e1] at e1'
        cases e1'
        refine ⟨p0, vs', x, rfl, rfl, e2', by rw [rl'.len]; exact z, ?_⟩
        obtain ⟨F3, k⟩ := F2.put (es := ds ++ [d]) (us := vs' ++ [x]) e0 e1 (rl'.append (by rw [RL]; exact ⟨x, [], rfl, r2, by rw [RL]⟩))
        exact sX.go F3 k q2
      · exact q2.elim
/-! ### while -/
def loopW (t : M Bool) (body : MS) : Nat → MS
  | 0, _, _ => .stuck
  | n + 1, env, h => bndS (t env h) env fun b h => if b = true then (match body env h with
    | .next env2 h2 => loopW t body n env2 h2
    | .cnt env2 h2 => loopW t body n env2 h2
    | .brk env2 h2 => .next env2 h2
    | r => r) else .next env h
def mWhile (fuel : Env' → AH → Nat) (t : M Bool) (body : MS) : MS := fun env h => loopW t body (fuel env h) env h
theorem s_while (fuel : Env' → AH → Nat) (hp : PassesOwn (model X.prog X.w) X.A X.env X.xe) (hc : PT X c (tB X.K Wx mt)) (hb : PSs X body (tS X.K Wx m)) : PS X (.While c body [] pos) (tS X.K Wx (mWhile fuel mt m)) := by
  refine psI (ps_while hp hc hb) fun D σ H ⟨fr, w, P, env, h, F, q⟩ => ?_
  refine ⟨fun n σ' H' => ∃ w' P' env' h', RelF X.K fr w' P' env' h' σ' H' ∧ sX X.K Wx fr w' P' H' (loopW mt m n env' h') D, ⟨_, w, P, env, h, F, q⟩, fun n σ1 H1 ⟨w1, P1, env1, h1, F1, q1⟩ => ?_⟩
  cases n with
  | zero => exact q1.elim
  | succ n =>
    unfold loopW at q1
    refine oneS F1 q1 fun b w2 h2 b' H2 F2 r2 g2 q2 => ?_
    cases (show b = b' from r2)
    cases b with
    | false => exact sX.go F2 .refl q2
    | true =>
      rw [if_pos rfl] at q2 ⊢
      refine ⟨fun σ' H' => ∃ w' P' env' h', RelF X.K fr w' P' env' h' σ' H' ∧ sX X.K Wx fr w' P' H' (loopW mt m n env' h') D, fun σ' H' z => ⟨n, by omega, z⟩, fr, w2, P1, env1, h2, F2, ?_⟩
      revert q2
      cases m env1 h2 with
      | next env5 h5 => exact fun q3 w5 P5 σ5 H5 F5 k5 => ⟨w5, P5, env5, h5, F5, sX.on k5 q3⟩
      | cnt env5 h5 => exact fun q3 w5 P5 σ5 H5 F5 k5 => ⟨w5, P5, env5, h5, F5, sX.on k5 q3⟩
      | brk env5 h5 => exact id
      | ret d h5 => exact id
      | retN ds h5 => exact id
      | exc c env5 h5 => exact id
      | stuck => exact id
/-! ### x += a -/
def mAugI (i : Nat) (f : Int → Int → Int) (a : M D) : MS := fun env h => match env[i]? with
  | some (.val (.int k)) => bndS (a env h) env fun d h => match d with
    | .int j => .next (env.set i (.val (.int (f k j)))) h
    | _ => .stuck
  | _ => .stuck
theorem s_aug (i : Nat) {x : Str} {pos' : Pos} {op : Operator} {f : Int → Int → Int} (hN : X.N.Nodup) (he : PE X e (tE X.K Wx ma)) (ho : PIp X op (ipI f)) (hi : X.N[i]? = some x := by rfl) (hx : Loc X.env.scope x := by first | exact Or.inl rfl | exact Or.inr rfl)
    (hf : X.fn x = true ∨ X.env.scope.names.lookup x = some .local := by first | exact .inl rfl | exact .inr rfl | assumption) : PS X (.AugAssign (.Name x pos') op e pos) (tS X.K Wx (mAugI i f ma)) :=
  psI (ps_aug hN hi hx he ho hf) fun D σ H ⟨fr, w, P, env, h, F, q⟩ => by
    unfold mAugI at q
    split at q
    · rename_i k ei
      obtain ⟨v, e1, r⟩ := F.sl i _ ei
      rw [R] at r
      subst r
      refine ⟨_, e1, ?_⟩
      refine oneS F q fun d w2 h2 x H2 F2 r2 _ q2 => ?_
      cases d with
      | int j =>
        rw [R] at r2
        subst r2
        exact ⟨k, j, rfl, rfl, sX.go (F2.set (d := .int (f k j)) (by rw [R])) .refl q2⟩
      | _ => exact q2.elim
    · exact q.elim
/-! ### a, b = x, y -/
def mPar (i j : Nat) (a : M (List D)) : MS := fun env h => bndS (a env h) env fun ds h => match ds with
  | [d, d'] => .next ((env.set i (.val d)).set j (.val d')) h
  | _ => .stuck
theorem s_par (i j : Nat) {x y : Str} {px py pt : Pos} {kt k2 pt2} (hN : X.N.Nodup) (ha : PA X [a, b] (tA X.K Wx mr)) (hi : X.N[i]? = some x := by rfl) (hj : X.N[j]? = some y := by rfl) (hij : i ≠ j := by decide) (hc : X.calm = true := by rfl)
    (hx : X.env.scope.names.lookup x = some .local := by rfl) (hy : X.env.scope.names.lookup y = some .local := by rfl)
    (hw : swappedStores [.Tuple [.Name x px, .Name y py] kt pt] (.Tuple [a, b] k2 pt2) X.env = pure (some [x, y]) := by rfl) (hs : swapsWithSole [.Tuple [.Name x px, .Name y py] kt pt] (.Tuple [a, b] k2 pt2) pos.line X.env = pure false := by rfl) :
    PS X (.Assign [.Tuple [.Name x px, .Name y py] kt pt] (.Tuple [a, b] k2 pt2) pos) (tS X.K Wx (mPar i j mr)) :=
  psI (ps_par hc hN hi hj hij hx hy ha hw hs) fun D σ H ⟨fr, w, P, env, h, F, q⟩ => oneS F q fun ds w2 h2 xs H2 F2 r2 _ q2 => by
    split at q2
    · rename_i d d'
      obtain ⟨v, v', rfl, r3, r4⟩ := r2.two
      exact ⟨v, v', rfl, sX.go ((F2.set r3).set r4) .refl q2⟩
    · exact q2.elim
/-! ### try -/
def isa (c x : Ex) : Bool := decide (c = x) || decide (x = .RoundError)
def hdOf (c : Ex) : List (Ex × MS) → Option MS
  | [] => none
  | (x, s) :: r => if isa c x = true then some s else hdOf c r
def mTry (cs : List Ex) (body : MS) (hds : List (Ex × MS)) : MS := fun env h => match body env h with
  | .exc c env' h' => if cs.contains c = true then (match hdOf c hds with
    | some s => s env' h'
    | none => .exc c env' h') else .stuck
  | r => r
/-- how exceptions are of one another -/
def Isa (K : PySem.W.Frag) (cs : List Ex) (xs : List Ex) : Prop := ∀ c ∈ cs, ∀ x ∈ xs, PySem.W.exmOne K (.ref (He.ga K c.name)) (.ref (He.ga K x.name)) = some (isa c x)
inductive Hds (X : Cx) : List ExceptHandler → List (Ex × MS) → Prop
  | nil : Hds X [] []
  | cons {x : Ex} {n : Str} {s : MS} {b₀ : Stmt} {suite : List Stmt} {np pos' : Pos} {hds : List ExceptHandler} {l : List (Ex × MS)} (hn : n = x.name) (hc : Names X n (.ref (He.ga X.K x.name)))
      (hsu : ∀ (a : Addr) (oe : Obj) (pn : List (Addr × Obj)), PSs (X.suite a ((a, oe) :: pn)) (b₀ :: suite) (tS X.K W0 s)) (r : Hds X hds l) :
      Hds X (.ExceptHandler (some (.Name n np)) none (b₀ :: suite) pos' :: hds) ((x, s) :: l)
theorem Hds.to {hds : List ExceptHandler} {l : List (Ex × MS)} (h : Hds X hds l) : HdsOk X hds (l.map fun p => (.ref (He.ga X.K p.1.name), fun _ _ _ => tS X.K W0 p.2)) := by
  induction h with
  | nil => exact .nil
  | cons hn hc hsu r ih =>
    subst hn
    exact .cons hc (fun a oe cls d pn _ _ => hsu a oe pn) ih
theorem many_of {Wout : WX} {D : Ends} {c : Ex} {cs : List Ex} {σ : L2.St} {H : Hp} (hcs : c ∈ cs) : ∀ {l : List (Ex × MS)}, Isa X.K cs (l.map (·.1)) →
    (∀ s, hdOf c l = some s → tS X.K W0 s D σ H) → (hdOf c l = none → Wout (.ref (He.ga X.K c.name)) none σ H) → wMany X.K Wout D (l.map fun p => (.ref (He.ga X.K p.1.name), fun _ _ _ => tS X.K W0 p.2)) (.ref (He.ga X.K c.name)) none σ H
  | [], _, _, no => no rfl
  | (x, s) :: r, hI, yes, no => by
    refine ⟨isa c x, hI c hcs x (by simp), fun b _ _ => yes s ?_, fun b => many_of (l := r) hcs (fun c' h' x' hx' => hI c' h' x' (by simp at hx' ⊢; exact .inr hx')) (fun s' e => yes s' ?_) (fun e => no ?_)⟩
    · show (if isa c x = true then some s else hdOf c r) = some s
      rw [if_pos b]
    · show (if isa c x = true then some s else hdOf c r) = some s'
      rw [if_neg (by rw [b]; simp)]
      exact e
    · show (if isa c x = true then some s else hdOf c r) = none
      rw [if_neg (by rw [b]; simp)]
      exact e
theorem sX.w0 {K : PySem.W.Frag} {fr : Fr} {w : Wd} {P : Addr → Prop} {H : Hp} {r : SRes} {D : Ends} (x : sX K Wx fr w P H r D) (n : ∀ c env h, r ≠ .exc c env h) : sX K W0 fr w P H r D := by
  cases r with
  | exc c env h => exact absurd rfl (n c env h)
  | _ => exact x
theorem hdOf_mem {c : Ex} {s : MS} : ∀ {l : List (Ex × MS)}, hdOf c l = some s → ∃ p ∈ l, p.2 = s
  | [], e => by cases e
  | (x, s') :: r, e => by
    have e' : (if isa c x = true then some s' else hdOf c r) = some s := e
    split at e'
    · cases e'
      exact ⟨(x, s), List.mem_cons_self, rfl⟩
    · obtain ⟨p, hp, e2⟩ := hdOf_mem e'
      exact ⟨p, List.mem_cons_of_mem _ hp, e2⟩
theorem s_try {cs : List Ex} {h₀ : ExceptHandler} {hds : List ExceptHandler} {l : List (Ex × MS)} (hI : Isa X.K cs (l.map (·.1))) (tk : Takes X Wx)
    (hb : ∀ (W : WX) (pn : List (Addr × Obj)) (xe : Value → Shared → Prop), Takes (X.tr pn xe) W → PassesOwn (model X.prog X.w) X.A X.env xe → PSs (X.tr pn xe) body (tS X.K W m)) (hh : Hds X (h₀ :: hds) l)
    (hnx : ∀ p ∈ l, ∀ env h c env' h', p.2 env h ≠ .exc c env' h') (hs : X.stack = X.env :: X.outer := by rfl) (hf : X.env.frame = some X.env.locals := by rfl) : PS X (.Try body (h₀ :: hds) [] [] pos) (tS X.K Wx (mTry cs m l)) := by
  refine psI (ps_try_many (Wout := Wx) (tb := fun W => tS X.K W m) hs hf tk hb hh.to) fun D σ H ⟨fr, w, P, env, h, F, q⟩ => ⟨fr, w, P, env, h, F, ?_⟩
  unfold mTry at q
  revert q
  cases m env h with
  | exc c env' h' =>
    intro q w1 P1 σ1 H1 F1 k1
    dsimp only at q
    split at q
    · rename_i hcs
      refine many_of (by simpa using hcs) hI (fun s e => ⟨fr, w1, P1, env', h', F1, ?_⟩) (fun e => ?_)
      · rw [e] at q
        have hm := hdOf_mem e
        obtain ⟨p, hp, rfl⟩ := hm
        exact sX.w0 (sX.on k1 q) fun c env h z => hnx p hp _ _ _ _ _ z
      · rw [e] at q
        exact q w1 P1 σ1 H1 F1 k1
    · exact q.elim
  | next env' h' => exact id
  | ret d h' => exact id
  | retN ds h' => exact id
  | brk env' h' => exact id
  | cnt env' h' => exact id
  | stuck => exact id
end
end Fx

namespace Fx
open PySem
open L2
theorem nA0 : ∀ (env : Env') h ds h', mNil env h = .ok ds h' → ds.length = 0 := fun env h ds h' e => by cases e; rfl
theorem nA {n : Nat} {a : M D} {r : M (List D)} (hr : ∀ (env : Env') h ds h', r env h = .ok ds h' → ds.length = n) : ∀ (env : Env') h ds h', mCons a r env h = .ok ds h' → ds.length = n + 1 := fun env h ds h' e => by
  unfold mCons at e
  cases e1 : a env h with
  | ok x h1 =>
    rw [e1] at e
    cases e2 : r env h1 with
    | ok xs h2 =>
      simp only [bnd] at e
      rw [e2] at e
      cases e
      simp [hr _ _ _ _ e2]
    | exc c h2 => simp only [bnd] at e; rw [e2] at e; cases e
    | stuck => simp only [bnd] at e; rw [e2] at e; cases e
  | exc c h1 => rw [e1] at e; cases e
  | stuck => rw [e1] at e; cases e
section
variable {X : Cx} {Wx : WX} {a b c e tg iter : Expr} {es : List Expr} {pos p p2 apos cpos : Pos} {ma mb mc : M D} {mt mu : M Bool} {mr ml : M (List D)} {mq mp : M Sq} {mm : M (D × Env')} {st : Stmt} {sts body : List Stmt} {m m' : MS}
/-! ### isinstance(x, T) -/
def kindD : D → Option String
  | .non => some "NoneType"
  | .bl _ => some "bool"
  | .int _ => some "int"
  | .str _ => some "str"
  | .tup _ => some "tuple"
  | .lst _ => some "list"
  | _ => none
theorem ty_ok {K : PySem.W.Frag} {w : Wd} {B : Bz} {H : Hp} {d : D} {x : V} {t : String} (r : R w B H d x) (e : kindD d = some t) : TyX K H x (.type t) := by
  cases d with
  | non => rw [R] at r; subst r; cases e; exact .base .non
  | bl b => rw [R] at r; subst r; cases e; exact .base (.bl b)
  | int b => rw [R] at r; subst r; cases e; exact .base (.int b)
  | str b => rw [R] at r; subst r; cases e; exact .base (.str b)
  | tup ds => rw [R] at r; obtain ⟨a, vs, rfl, _, h, _⟩ := r; cases e; exact .base (.tup h)
  | lst ds => rw [R] at r; obtain ⟨a, vs, rfl, _, h, _⟩ := r; cases e; exact .base (.lst h)
  | _ => cases e
/-- the kinds of data that are of T -/
def isT (T : String) (t : String) : Bool := t == T || (T == "int" && t == "bool")
def gIsi (T : String) (d : D) : Option Bool := (kindD d).map (isT T)
def tNames : List String := ["NoneType", "bool", "int", "str", "tuple", "list"]
theorem kind_in {d : D} {t : String} (e : kindD d = some t) : t ∈ tNames := by
  cases d <;> cases e <;> decide
theorem e_isi {T : Str} {Tn : String} (ha : PE X a (tE X.K Wx ma)) (hm : X.mg "isinstance" = none) (hmT : X.mg T = none) (hb : bootBuiltins T = some (.type Tn)) (hk : ∀ t ∈ tNames, kitB t Tn = some (isT Tn t)) (hg : Gl X "isinstance" := by rfl) (hgT : Gl X T := by rfl) (hnT : T ≠ "__name__" := by decide) (hdT : (T == ("__debug__" : Str)) = false := by decide)
    (he : starEach (a :: [.Name T p2]) X.env = (false, eval a X.env) :: starEach [.Name T p2] X.env := by rfl) (hpl : (backTo pos (starEach [.Name T p2] X.env)).any (·.1) = false := by rfl) (he2 : starEach ((.Name T p2) :: []) X.env = (false, eval (.Name T p2) X.env) :: starEach [] X.env := by rfl) :
    PE X (.Call (.Name "isinstance" p) [a, .Name T p2] [] pos) (tE X.K Wx (mVal (mTst (gIsi Tn) ma))) :=
  peI (pe_callB call_isi hg hm PyProof.Rows.boot_isinstance (pa_cons ha (pa_cons (pe_bltn (v := .ty Tn) hgT hmT hb rfl hnT hdT) pa_nil he2) he) (by decide) (by decide) he hpl) fun σ H Q ⟨fr, w, P, env, h, F, q⟩ => by
    have q' : tX R X.K Wx fr w P σ H (bnd (ma env h) fun d h => bnd (lift (gIsi Tn d) h) fun c h => .ok (.bl c) h) Q := by
      unfold mVal mTst at q
      rw [bnd_assoc] at q
      exact q
    refine one' F q' fun d w2 h2 x H2 F2 r2 _ q2 => ?_
    unfold gIsi at q2
    cases e : kindD d with
    | none => rw [e] at q2; exact q2.elim
    | some t =>
      rw [e] at q2
      exact ⟨x, .ty Tn, .type t, .type Tn, isT Tn t, rfl, .ty Tn, ty_ok r2 e, kit_ty (hk t (kind_in e)), tX.fin F2 q2 (by rw [R])⟩
theorem k_int : ∀ t ∈ tNames, kitB t "int" = some (isT "int" t) := by decide +kernel
theorem k_bool : ∀ t ∈ tNames, kitB t "bool" = some (isT "bool" t) := by decide +kernel
theorem k_tuple : ∀ t ∈ tNames, kitB t "tuple" = some (isT "tuple" t) := by decide +kernel
theorem k_list : ∀ t ∈ tNames, kitB t "list" = some (isT "list" t) := by decide +kernel
theorem k_str : ∀ t ∈ tNames, kitB t "str" = some (isT "str" t) := by decide +kernel
theorem bt_int : bootBuiltins "int" = some (.type "int") := by decide +kernel
theorem bt_bool : bootBuiltins "bool" = some (.type "bool") := by decide +kernel
theorem bt_tuple : bootBuiltins "tuple" = some (.type "tuple") := by decide +kernel
theorem bt_list : bootBuiltins "list" = some (.type "list") := by decide +kernel
theorem bt_str : bootBuiltins "str" = some (.type "str") := by decide +kernel
theorem bt_set : bootBuiltins "set" = some (.type "set") := by decide +kernel
theorem bt_dict : bootBuiltins "dict" = some (.type "dict") := by decide +kernel
theorem bb_abs : bootBuiltins "abs" = some (.builtin "abs") := by decide +kernel
theorem bb_min : bootBuiltins "min" = some (.builtin "min") := by decide +kernel
theorem bb_max : bootBuiltins "max" = some (.builtin "max") := by decide +kernel
theorem bb_sum : bootBuiltins "sum" = some (.builtin "sum") := by decide +kernel
theorem bb_len : bootBuiltins "len" = some (.builtin "len") := by decide +kernel
theorem bb_sorted : bootBuiltins "sorted" = some (.builtin "sorted") := by decide +kernel
/-- a truth value, as a test -/
theorem t_val (ha : PE X a (tE X.K Wx (mVal mt))) (he : ∀ whole, isTrue a X.env whole = (do let v ← whole; standAt a.pos; holding [v] (truthy v)) := by intro _; rfl) : PT X a (tB X.K Wx mt) :=
  ptI (pt_truth ha he) fun σ H Q ⟨fr, w, P, env, h, F, q⟩ => by
    have q' : tX (REq Bool) X.K Wx fr w P σ H (bnd (mVal mt env h) fun d h => lift (truthD d) h) Q := by
      unfold mVal
      rw [bnd_assoc]
      have e : (bnd (mt env h) fun a h => bnd (.ok (D.bl a) h) fun d h => lift (truthD d) h) = mt env h := by
        cases mt env h <;> rfl
      rw [e]
      exact q
    refine one' F q' fun d w2 h2 x H2 F2 r2 _ q2 => ?_
    cases e : truthD d with
    | none => rw [e] at q2; exact q2.elim
    | some k =>
      rw [e] at q2
      exact ⟨k, truth_ok r2 e, tX.fin F2 q2 rfl⟩
/-! ### numbers by built-ins -/
def fAbs : List D → Option D
  | [.int i] => some (.int (if i < 0 then -i else i))
  | _ => none
theorem sc_abs {K : PySem.W.Frag} : SC K (fun xs H Q => ∃ i, xs = [.int i] ∧ Q (.int (if i < 0 then -i else i)) H) fAbs := by
  intro Wx fr w P env h σ H as xs Q F r q
  unfold fAbs at q
  split at q
  · rename_i i
    obtain ⟨v, rfl, r1⟩ := r.one
    rw [R] at r1
    subst r1
    exact ⟨i, rfl, tX.fin F q (by rw [R])⟩
  · exact q.elim
theorem e_abs (hm : X.mg "abs" = none) (ha : PA X [a] (tA X.K Wx mr)) (hg : Gl X "abs" := by rfl) (he : starEach (a :: []) X.env = (false, eval a X.env) :: starEach [] X.env := by rfl) (hpl : (backTo pos (starEach [] X.env)).any (·.1) = false := by rfl) :
    PE X (.Call (.Name "abs" p) [a] [] pos) (tE X.K Wx (mFn fAbs mr)) := e_fn call_abs sc_abs hm bb_abs ha hg (by decide) (by decide) he hpl
def fMin2 : List D → Option D
  | [.int i, .int j] => some (.int (if j < i then j else i))
  | _ => none
def fMax2 : List D → Option D
  | [.int i, .int j] => some (.int (if j > i then j else i))
  | _ => none
theorem sc_min2 {K : PySem.W.Frag} : SC K (fun xs H Q => ∃ i j, xs = [.int i, .int j] ∧ Q (.int (if j < i then j else i)) H) fMin2 := by
  intro Wx fr w P env h σ H as xs Q F r q
  unfold fMin2 at q
  split at q
  · rename_i i j
    obtain ⟨v, v', rfl, r1, r2⟩ := r.two
    rw [R] at r1
    rw [R] at r2
    subst r1 r2
    exact ⟨i, j, rfl, tX.fin F q (by rw [R])⟩
  · exact q.elim
theorem sc_max2 {K : PySem.W.Frag} : SC K (fun xs H Q => ∃ i j, xs = [.int i, .int j] ∧ Q (.int (if j > i then j else i)) H) fMax2 := by
  intro Wx fr w P env h σ H as xs Q F r q
  unfold fMax2 at q
  split at q
  · rename_i i j
    obtain ⟨v, v', rfl, r1, r2⟩ := r.two
    rw [R] at r1
    rw [R] at r2
    subst r1 r2
    exact ⟨i, j, rfl, tX.fin F q (by rw [R])⟩
  · exact q.elim
theorem e_min2 (hm : X.mg "min" = none) (ha : PA X [a, b] (tA X.K Wx mr)) (hg : Gl X "min" := by rfl) (hc : X.calm = true := by rfl) (he : starEach (a :: [b]) X.env = (false, eval a X.env) :: starEach [b] X.env := by rfl) (hpl : (backTo pos (starEach [b] X.env)).any (·.1) = false := by rfl) :
    PE X (.Call (.Name "min" p) [a, b] [] pos) (tE X.K Wx (mFn fMin2 mr)) := e_fn (call_min2 hc) sc_min2 hm bb_min ha hg (by decide) (by decide) he hpl
theorem e_max2 (hm : X.mg "max" = none) (ha : PA X [a, b] (tA X.K Wx mr)) (hg : Gl X "max" := by rfl) (hc : X.calm = true := by rfl) (he : starEach (a :: [b]) X.env = (false, eval a X.env) :: starEach [b] X.env := by rfl) (hpl : (backTo pos (starEach [b] X.env)).any (·.1) = false := by rfl) :
    PE X (.Call (.Name "max" p) [a, b] [] pos) (tE X.K Wx (mFn fMax2 mr)) := e_fn (call_max2 hc) sc_max2 hm bb_max ha hg (by decide) (by decide) he hpl
def fInt : List D → Option D
  | [.int i] => some (.int i)
  | [.bl k] => some (.int (if k = true then 1 else 0))
  | _ => none
theorem sc_int {K : PySem.W.Frag} : SC K (fun xs H Q => (∃ i, xs = [.int i] ∧ Q (.int i) H) ∨ ∃ k, xs = [.bl k] ∧ Q (.int (if k then 1 else 0)) H) fInt := by
  intro Wx fr w P env h σ H as xs Q F r q
  unfold fInt at q
  split at q
  · rename_i i
    obtain ⟨v, rfl, r1⟩ := r.one
    rw [R] at r1
    subst r1
    exact .inl ⟨i, rfl, tX.fin F q (by rw [R])⟩
  · rename_i i
    obtain ⟨v, rfl, r1⟩ := r.one
    rw [R] at r1
    subst r1
    exact .inr ⟨i, rfl, tX.fin F q (by rw [R])⟩
  · exact q.elim
theorem e_toint (hm : X.mg "int" = none) (ha : PA X [a] (tA X.K Wx mr)) (hg : Gl X "int" := by rfl) (he : starEach (a :: []) X.env = (false, eval a X.env) :: starEach [] X.env := by rfl) (hpl : (backTo pos (starEach [] X.env)).any (·.1) = false := by rfl) :
    PE X (.Call (.Name "int" p) [a] [] pos) (tE X.K Wx (mFn fInt mr)) := e_ty call_int1 sc_int hm bt_int ha hg (by decide) (by decide) he hpl
/-! ### len, sum, tuple, list -/
theorem e_len (hm : X.mg "len" = none) (ha : PE X a (tQ X.K Wx mq)) (hg : Gl X "len" := by rfl) (he : starEach (a :: []) X.env = (false, eval a X.env) :: starEach [] X.env := by rfl) (hpl : (backTo pos (starEach [] X.env)).any (·.1) = false := by rfl) :
    PE X (.Call (.Name "len" p) [a] [] pos) (tE X.K Wx (mQ qLen mq)) := e_fnQ call_len_seq sq_len hm bb_len ha hg (by decide) (by decide) he hpl
theorem e_sum (hm : X.mg "sum" = none) (ha : PE X a (tQ X.K Wx mq)) (hg : Gl X "sum" := by rfl) (hc : X.calm = true := by rfl) (he : starEach (a :: []) X.env = (false, eval a X.env) :: starEach [] X.env := by rfl) (hpl : (backTo pos (starEach [] X.env)).any (·.1) = false := by rfl) :
    PE X (.Call (.Name "sum" p) [a] [] pos) (tE X.K Wx (mQ qSum mq)) := e_fnQ (cr_sum hc) sq_sum hm bb_sum ha hg (by decide) (by decide) he hpl
def qTuple (q : Sq) : Option D := if q.1 = false then some (.tup q.2) else none
theorem sq_tuple {K : PySem.W.Frag} : SQ K (fun xs H Q => ∃ p ys, xs = [.ref p] ∧ ((SqL K H p ys ∧ ∀ l, H l = none → Q (.ref l) (upd H l (.tup ys))) ∨ (SqT K H p ys ∧ Q (.ref p) H))) qTuple := by
  intro Wx fr w P env h σ H q x Q F r t
  obtain ⟨p, vs, rfl, _, hs, rl⟩ := r
  obtain ⟨b, ds⟩ := q
  cases b with
  | true => exact t.elim
  | false =>
    rcases hs with ⟨_, hs⟩ | ⟨z, _⟩
    · exact ⟨p, vs, rfl, .inl ⟨.inl hs, fun l n => tup_fin F t n rl⟩⟩
    · cases z
theorem e_tuple (hm : X.mg "tuple" = none) (ha : PE X a (tQ X.K Wx mq)) (hg : Gl X "tuple" := by rfl) (he : starEach (a :: []) X.env = (false, eval a X.env) :: starEach [] X.env := by rfl) (hpl : (backTo pos (starEach [] X.env)).any (·.1) = false := by rfl) :
    PE X (.Call (.Name "tuple" p) [a] [] pos) (tE X.K Wx (mQ qTuple mq)) := e_tyQ call_tuple_of sq_tuple hm bt_tuple ha hg (by decide) (by decide) he hpl
/-- list(range(a)) -/
theorem RL.range {w : Wd} {B : Bz} {H : Hp} (lo : Int) (n : Nat) : RL w B H (rangeD lo n) ((List.range n).map fun (i : Nat) => V.int (lo + i)) := by
  unfold rangeD
  induction (List.range n) with
  | nil => rw [List.map_nil, List.map_nil, RL]
  | cons i r ih =>
    rw [List.map_cons, List.map_cons, RL]
    exact ⟨_, _, rfl, by rw [R], ih⟩
end
end Fx

namespace Fx
open PySem
open L2
section
variable {X : Cx} {Wx : WX} {a b c e tg iter elt : Expr} {es ifs : List Expr} {pos p p2 apos cpos spos : Pos} {ma mb mc me : M D} {mt mu : M Bool} {mr ml mi : M (List D)} {mq mp : M Sq} {mm : M (D × Env')} {st : Stmt} {sts body : List Stmt} {m m' : MS} {scope : Scope} {own : List (Str × Nat)} {g : TG} {as : D → Env' → Option Env'}
/-- name = [..], the name a local -/
theorem s_setLc (i : Nat) {y : Str} {py : Pos} (hN : X.N.Nodup) (hi : PI X tg iter (tI X.K Wx mi)) (ok : BlkOk X.N X.env.scope scope own)
    (hg : ∀ (s : Shared) (H : Hp) (C : Addr) (cl : List (Str × Addr)) (fp : List Addr), PG (X.blk s H scope (PySem.compEnvC scope cl C X.env) fp) tg g)
    (sg : SGc X.K g as (own.map (·.2)))
    (ht : ∀ (s : Shared) (H : Hp) (C : Addr) (cl : List (Str × Addr)) (fp : List Addr), PTs (X.blk s H scope (PySem.compEnvC scope cl C X.env) fp) ifs (tB X.K W0 mt))
    (he : ∀ (s : Shared) (H : Hp) (C : Addr) (cl : List (Str × Addr)) (fp : List Addr), PE (X.blk s H scope (PySem.compEnvC scope cl C X.env) fp) elt (tE X.K W0 me))
    (hsw : swapsWith (.ListComp elt [⟨tg, iter, ifs, 0⟩] scope pos) (some (.Name y py)) spos.line X.env = pure true) (hy : X.N[i]? = some y := by rfl) (hyl : X.env.scope.names.lookup y = some .local := by rfl) (hc : X.calm = true := by rfl) (hs : ∀ x, foldedSetIterable iter X.env x = pure x := by intro _; rfl) :
    PS X (.Assign [.Name y py] (.ListComp elt [⟨tg, iter, ifs, 0⟩] scope pos) spos) (tS X.K Wx (mSet i (mLst (mLc mi (own.map (·.2)) as mt me)))) :=
  psI (ps_setLc hc hN hy hyl hsw hi ok hg ht he hs) fun D σ H ⟨fr, w, P, env, h, F, q⟩ => by
    refine lc_imp sg σ H _ ?_
    refine ⟨fr, w, P, env, h, F, ?_⟩
    have q' : sX X.K Wx fr w P H (bndS (mLc mi (own.map (·.2)) as mt me env h) env fun ds h => .next (env.set i (.val (.lst ds))) h) D := by
      unfold mSet mLst at q
      revert q
      cases mLc mi (own.map (·.2)) as mt me env h <;> exact id
    have z := sX.bndL F q'
    revert z
    cases mLc mi (own.map (·.2)) as mt me env h with
    | ok ds h' =>
      intro z w' p vs H' gr rh n e nw rl
      obtain ⟨ds', p', vs', w1, h1, e', rh', g', n', e1, nw', rl', q2⟩ := z w' p vs H' gr rh n e nw rl
      cases e'
      have sb : ∀ a, Bu fr.O P w1 a → Bu fr.O (fun a => P a ∨ a = p) w1 a := fun a z => z.elim .inl fun z => z.elim (fun z => .inr (.inl (.inl z))) fun z => .inr (.inr z)
      have F1 := F.grow g' (rh'.keep (fun _ _ e _ => e) (Keep.sub sb))
      refine sX.go (F1.set (d := .lst ds') ?_) g'.kw q2
      rw [R]
      refine ⟨p, vs', rfl, ?_, e1, RL.keep .refl (Keep.sub sb) _ _ rl'⟩
      rintro (z | z | z)
      · exact (F.ow z).1 n'
      · exact (F.pp p z).2.1 n'
      · exact nw' z
    | exc c h' => exact id
    | stuck => exact id
theorem s_setLcO (i : Nat) {y : Str} {py : Pos} (hN : X.N.Nodup) (hi : PI X tg iter (tI X.K Wx mi)) (ok : BlkOk X.N X.env.scope scope own)
    (hg : ∀ (s : Shared) (H : Hp) (C : Addr) (cl : List (Str × Addr)) (fp : List Addr), PG (X.blk s H scope (PySem.compEnvC scope cl C X.env) fp) tg g)
    (sg : SGc X.K g as (own.map (·.2)))
    (ht : ∀ (s : Shared) (H : Hp) (C : Addr) (cl : List (Str × Addr)) (fp : List Addr), PTs (X.blk s H scope (PySem.compEnvC scope cl C X.env) fp) ifs (tB X.K W0 mt))
    (he : ∀ (s : Shared) (H : Hp) (C : Addr) (cl : List (Str × Addr)) (fp : List Addr), PE (X.blk s H scope (PySem.compEnvC scope cl C X.env) fp) elt (tE X.K W0 me))
    (hsw : swapsWith (.ListComp elt [⟨tg, iter, ifs, 0⟩] scope pos) (some (.Name y py)) spos.line X.env = pure true) (hy : X.N[i]? = some y := by rfl) (hyl : X.env.scope.names.lookup y = some .local := by rfl) (hc : X.calm = true := by rfl) (hs : ∀ x, foldedSetIterable iter X.env x = pure x := by intro _; rfl) :
    PS X (.Assign [.Name y py] (.ListComp elt [⟨tg, iter, ifs, 0⟩] scope pos) spos) (tS X.K Wx (mSetL i (mLc mi (own.map (·.2)) as mt me))) :=
  psI (ps_setLc hc hN hy hyl hsw hi ok hg ht he hs) fun D σ H ⟨fr, w, P, env, h, F, q⟩ => by
    refine lc_imp sg σ H _ ?_
    refine ⟨fr, w, P, env, h, F, ?_⟩
    have z := sX.bndL F q
    revert z
    cases mLc mi (own.map (·.2)) as mt me env h with
    | ok ds h' =>
      intro z w' p vs H' gr rh n e nw rl
      obtain ⟨ds', p', vs', w1, h1, e', rh', g', n', e1, nw', rl', q'⟩ := z w' p vs H' gr rh n e nw rl
      cases e'
      obtain ⟨F', kp⟩ := F.setOwn (i := i) g' n' rh' e1 nw' rl'
      exact sX.go F' kp q'
    | exc c h' => exact id
    | stuck => exact id
/-! ### a sequence walked, a list or a tuple -/
def seqItems (d : D) : Option (List D) := (sqOf d).map (·.2)
theorem PI.or {wi wi' : TI} (h : PI X tg iter wi) (h' : PI X tg iter wi') : PI X tg iter (fun σ H G => wi σ H G ∨ wi' σ H G) := ⟨fun pins s σ H G I q => q.elim (h.run pins s σ H G I) (h'.run pins s σ H G I)⟩
theorem i_seq (ha : PE X a (tE X.K Wx ma)) : PI X tg a (tI X.K Wx (mIt seqItems ma)) :=
  piI (PI.or (i_list (tg := tg) ha) (i_tup ha)) fun σ H G ⟨fr, w, P, env, h, F, q⟩ => by
    unfold mIt at q
    cases e : ma env h with
    | ok d h' =>
      rw [e] at q
      cases d with
      | tup ds => exact .inr ⟨fr, w, P, env, h, F, by unfold mIt; rw [e]; exact q⟩
      | lst ds => exact .inl ⟨fr, w, P, env, h, F, by unfold mIt; rw [e]; exact q⟩
      | scr ds => exact .inl ⟨fr, w, P, env, h, F, by unfold mIt; rw [e]; exact q⟩
      | _ => exact q.elim
    | exc c h' => rw [e] at q; exact .inl ⟨fr, w, P, env, h, F, by unfold mIt; rw [e]; exact q⟩
    | stuck => rw [e] at q; exact q.elim
/-! ### truths -/
theorem e_bool (ha : PE X a (tE X.K Wx ma)) : PE X a (tE X.K Wx (mVal (mTst blD ma))) :=
  peI ha fun σ H Q ⟨fr, w, P, env, h, F, q⟩ => by
    have q' : tX R X.K Wx fr w P σ H (bnd (ma env h) fun d h => bnd (lift (blD d) h) fun c h => .ok (.bl c) h) Q := by
      unfold mVal mTst at q
      rw [bnd_assoc] at q
      exact q
    refine one' F q' fun d w2 h2 x H2 F2 r2 _ q2 => ?_
    cases d with
    | bl b => exact tX.fin F2 q2 r2
    | _ => exact q2.elim
theorem e_notT (ha : PE X a (tE X.K Wx ma)) : PE X (.UnaryOp .Not a pos) (tE X.K Wx (mVal (mNot (mTst truthD ma)))) :=
  peI (pe_notT ha) fun σ H Q ⟨fr, w, P, env, h, F, q⟩ => by
    have q' : tX R X.K Wx fr w P σ H (bnd (ma env h) fun d h => bnd (lift (truthD d) h) fun c h => .ok (.bl (!c)) h) Q := by
      unfold mVal mNot mTst at q
      revert q
      cases ma env h with
      | ok d h' =>
        show tX R X.K Wx fr w P σ H (bnd (bnd (lift (truthD d) h') _) _) Q → tX R X.K Wx fr w P σ H (bnd (lift (truthD d) h') _) Q
        cases truthD d <;> exact id
      | exc c h' => exact id
      | stuck => exact id
    refine one' F q' fun d w2 h2 x H2 F2 r2 _ q2 => ?_
    cases e : truthD d with
    | none => rw [e] at q2; exact q2.elim
    | some k =>
      rw [e] at q2
      exact ⟨k, truth_ok r2 e, tX.fin F2 q2 (by rw [R])⟩
def qTruth (q : Sq) : Option Bool := some (!q.2.isEmpty)
theorem t_truthQ (ha : PE X a (tQ X.K Wx mq)) (he : ∀ whole, isTrue a X.env whole = (do let v ← whole; standAt a.pos; holding [v] (truthy v)) := by intro _; rfl) : PT X a (tB X.K Wx (mQ qTruth mq)) :=
  ptI (pt_truth ha he) fun σ H Q ⟨fr, w, P, env, h, F, q⟩ => one' F q fun qq w2 h2 x H2 F2 r2 _ q2 => by
    obtain ⟨p, vs, rfl, _, hs, rl⟩ := r2
    refine ⟨!qq.2.isEmpty, ?_, tX.fin F2 q2 rfl⟩
    rcases hs with ⟨_, hs⟩ | ⟨_, hs⟩
    · exact .inl ⟨vs, .inl hs, by rw [rl.empty]⟩
    · exact .inr (.inl ⟨vs, .of hs, by rw [rl.empty]⟩)
/-! ### in, not in -/
def rInT (K : PySem.W.Frag) (neg : Bool) : R2 := fun x y H Q => ∃ d ds, Dp K H x d ∧ Dp K H y (.tuple ds) ∧ SeqAt.shaped d = true ∧ SeqAt.shaped (.tuple ds) = true ∧ Q (.bl (if neg = true then !(ds.any fun z => PyData.eqv z d) else ds.any fun z => PyData.eqv z d)) H
theorem op_inT (hu : X.A.units + 65 < cLine) : OpR X (compareOp .In) (rInT X.K false) := by
  intro pins s σ H x y v u Q I rx ry h
  obtain ⟨d, ds, hd, he, sd, se, q⟩ := h
  obtain ⟨as, r1⟩ := Dp.reads I d x v hd rx
  obtain ⟨bs, r2⟩ := Dp.reads I (.tuple ds) y u he ry
  exact SeqAt.in_tuple_reads r2 r1 (SeqAt.canLay_of_shaped se) (SeqAt.canLay_of_shaped sd) (PyProof.Rows.room_in_shaped sd hu) ⟨.bl _, H, I, rfl, q⟩
theorem op_notInT (hu : X.A.units + 65 < cLine) : OpR X (compareOp .NotIn) (rInT X.K true) := by
  intro pins s σ H x y v u Q I rx ry h
  obtain ⟨d, ds, hd, he, sd, se, q⟩ := h
  obtain ⟨as, r1⟩ := Dp.reads I d x v hd rx
  obtain ⟨bs, r2⟩ := Dp.reads I (.tuple ds) y u he ry
  exact SeqAt.notIn_tuple_reads r2 r1 (SeqAt.canLay_of_shaped se) (SeqAt.canLay_of_shaped sd) (PyProof.Rows.room_in_shaped sd hu) ⟨.bl _, H, I, rfl, q⟩
def anyEq (d : D) (ds : List D) : Bool := ds.any fun y => eqD y d
def qIn (d : D) (q : Sq) : Option Bool := if dpt d ≤ 60 ∧ dptL q.2 ≤ 59 then some (anyEq d q.2) else none
def qNotIn (d : D) (q : Sq) : Option Bool := if dpt d ≤ 60 ∧ dptL q.2 ≤ 59 then some (!anyEq d q.2) else none
theorem shapedL {ds : List D} (h : dptL ds ≤ 59) : SeqAt.shaped (.list (toPyL ds)) = true := by
  have := shaped_of (d := .lst ds) (by rw [dpt]; omega)
  rw [toPy] at this
  exact this
theorem shapedT {ds : List D} (h : dptL ds ≤ 59) : SeqAt.shaped (.tuple (toPyL ds)) = true := by
  have := shaped_of (d := .tup ds) (by rw [dpt]; omega)
  rw [toPy] at this
  exact this
theorem any_py (d : D) (ds : List D) : ((toPyL ds).any fun z => PyData.eqv z (toPy d)) = anyEq d ds := by
  rw [toPyL_map]
  unfold anyEq eqD
  rw [List.any_map]
  rfl
theorem in_ok {K : PySem.W.Frag} {w : Wd} {B : Bz} {H : Hp} {d : D} {q : Sq} {x y : V} {Q : VK} (r1 : R w B H d x) (r2 : RQ w B H q y) (z : dpt d ≤ 60 ∧ dptL q.2 ≤ 59) (k : Q (.bl (anyEq d q.2)) H) : rInD K x y H Q ∨ rInT K false x y H Q := by
  obtain ⟨p, vs, rfl, _, hs, rl⟩ := r2
  rcases hs with ⟨_, hs⟩ | ⟨_, hs⟩
  · exact .inl ⟨_, _, dp_of d x r1 z.1, .lst (.inl hs) (dp_ofL _ _ rl (by omega)), shaped_of z.1, shapedL z.2, by rw [any_py]; exact k⟩
  · exact .inr ⟨_, _, dp_of d x r1 z.1, .tup (.of hs) (dp_ofL _ _ rl (by omega)), shaped_of z.1, shapedT z.2, by rw [if_neg (by simp), any_py]; exact k⟩
theorem notin_ok {K : PySem.W.Frag} {w : Wd} {B : Bz} {H : Hp} {d : D} {q : Sq} {x y : V} {Q : VK} (r1 : R w B H d x) (r2 : RQ w B H q y) (z : dpt d ≤ 60 ∧ dptL q.2 ≤ 59) (k : Q (.bl (!anyEq d q.2)) H) : rNotInD K x y H Q ∨ rInT K true x y H Q := by
  obtain ⟨p, vs, rfl, _, hs, rl⟩ := r2
  rcases hs with ⟨_, hs⟩ | ⟨_, hs⟩
  · exact .inl ⟨_, _, dp_of d x r1 z.1, .lst (.inl hs) (dp_ofL _ _ rl (by omega)), shaped_of z.1, shapedL z.2, by rw [any_py]; exact k⟩
  · exact .inr ⟨_, _, dp_of d x r1 z.1, .tup (.of hs) (dp_ofL _ _ rl (by omega)), shaped_of z.1, shapedT z.2, by rw [if_pos rfl, any_py]; exact k⟩
theorem room1 {A : Around} {k : Nat} (hr : Room k A) : A.units + 65 < cLine := by have := hr.un; omega
theorem t_in {k : Nat} (hr : Room k X.A) (ha : PE X a (tE X.K Wx ma)) (hb : PE X b (tQ X.K Wx mq)) (hm : behindInMarks .In b = false := by with_unfolding_all rfl) : PT X (.Compare a [.In] [b] pos) (tB X.K Wx (m2Q qIn ma mq)) :=
  ptI (pt_cmpR ((op_inD (room1 hr)).or (op_inT (room1 hr))) ha hb hm) fun σ H Q ⟨fr, w, P, env, h, F, q⟩ => one' F q fun d w1 h1 x H1 F1 r1 _ q1 => one' F1 q1 fun qq w2 h2 y H2 F2 r2 g2 q2 => by
    unfold qIn at q2
    split at q2
    · rename_i z
      exact in_ok (R.keep g2.rho g2.keepB _ _ r1) r2 z ⟨_, rfl, tX.fin F2 q2 rfl⟩
    · exact q2.elim
theorem t_notin {k : Nat} (hr : Room k X.A) (ha : PE X a (tE X.K Wx ma)) (hb : PE X b (tQ X.K Wx mq)) (hm : behindInMarks .NotIn b = false := by with_unfolding_all rfl) : PT X (.Compare a [.NotIn] [b] pos) (tB X.K Wx (m2Q qNotIn ma mq)) :=
  ptI (pt_cmpR ((op_notInD (room1 hr)).or (op_notInT (room1 hr))) ha hb hm) fun σ H Q ⟨fr, w, P, env, h, F, q⟩ => one' F q fun d w1 h1 x H1 F1 r1 _ q1 => one' F1 q1 fun qq w2 h2 y H2 F2 r2 g2 q2 => by
    unfold qNotIn at q2
    split at q2
    · rename_i z
      exact notin_ok (R.keep g2.rho g2.keepB _ _ r1) r2 z ⟨_, rfl, tX.fin F2 q2 rfl⟩
    · exact q2.elim
theorem val2 {α β : Type} {f : M α} {g : M β} {k : α → β → Option Bool} {env : Env'} {h : AH} : mVal (fun env h => bnd (f env h) fun x h => bnd (g env h) fun y h => lift (k x y) h) env h = bnd (f env h) fun x h => bnd (g env h) fun y h => bnd (lift (k x y) h) fun c h => .ok (.bl c) h := by
  unfold mVal
  rw [bnd_assoc]
  cases f env h with
  | ok x h' => show bnd (bnd (g env h') _) _ = bnd (g env h') _; rw [bnd_assoc]
  | exc c h' => rfl
  | stuck => rfl
theorem e_in {k : Nat} (hr : Room k X.A) (ha : PE X a (tE X.K Wx ma)) (hb : PE X b (tQ X.K Wx mq)) (hm : behindInMarks .In b = false := by with_unfolding_all rfl) : PE X (.Compare a [.In] [b] pos) (tE X.K Wx (mVal (m2Q qIn ma mq))) :=
  peI (pe_cmpR ((op_inD (room1 hr)).or (op_inT (room1 hr))) ha hb hm) fun σ H Q ⟨fr, w, P, env, h, F, q⟩ => one' F (by unfold m2Q at q; rw [val2] at q; exact q) fun d w1 h1 x H1 F1 r1 _ q1 => one' F1 q1 fun qq w2 h2 y H2 F2 r2 g2 q2 => by
    unfold qIn at q2
    split at q2
    · rename_i z
      exact in_ok (R.keep g2.rho g2.keepB _ _ r1) r2 z (tX.fin F2 q2 (by rw [R]))
    · exact q2.elim
theorem e_notin {k : Nat} (hr : Room k X.A) (ha : PE X a (tE X.K Wx ma)) (hb : PE X b (tQ X.K Wx mq)) (hm : behindInMarks .NotIn b = false := by with_unfolding_all rfl) : PE X (.Compare a [.NotIn] [b] pos) (tE X.K Wx (mVal (m2Q qNotIn ma mq))) :=
  peI (pe_cmpR ((op_notInD (room1 hr)).or (op_notInT (room1 hr))) ha hb hm) fun σ H Q ⟨fr, w, P, env, h, F, q⟩ => one' F (by unfold m2Q at q; rw [val2] at q; exact q) fun d w1 h1 x H1 F1 r1 _ q1 => one' F1 q1 fun qq w2 h2 y H2 F2 r2 g2 q2 => by
    unfold qNotIn at q2
    split at q2
    · rename_i z
      exact notin_ok (R.keep g2.rho g2.keepB _ _ r1) r2 z (tX.fin F2 q2 (by rw [R]))
    · exact q2.elim
/-! ### list(range(a)), list(x) -/
def gLRng : D → Option (List D)
  | .int n => if -1000000 ≤ n ∧ n ≤ 1000000 then some (rangeD 0 n.toNat) else none
  | _ => none
def mLRng (a : M D) : M (List D) := fun env h => bnd (a env h) fun d h => lift (gLRng d) h
theorem l_rng (hm : X.mg "list" = none) (hm2 : X.mg "range" = none) (ha : PE X a (tE X.K Wx ma)) (hg : Gl X "list" := by rfl) (hg2 : Gl X "range" := by rfl) (hc : X.calm = true := by rfl)
    (hs : starEach [a] X.env = [(false, eval a X.env)] := by rfl) (hs2 : starEach [Expr.Call (.Name "range" p2) [a] [] cpos] X.env = [(false, eval (Expr.Call (.Name "range" p2) [a] [] cpos) X.env)] := by rfl) :
    PE X (.Call (.Name "list" p) [.Call (.Name "range" p2) [a] [] cpos] [] pos) (tL X.K Wx (mLRng ma)) :=
  peI (pe_listRg hc hg hm (prg_1 hg2 hm2 ha hs) hs2) fun σ H Q ⟨fr, w, P, env, h, F, q⟩ => oneL F q fun d w2 h2 x H2 F2 r2 _ q2 => by
    cases d with
    | int n =>
      rw [R] at r2
      rw [show gLRng (.int n) = if -1000000 ≤ n ∧ n ≤ 1000000 then some (rangeD 0 n.toNat) else none from rfl] at q2
      split at q2
      · rename_i z
        refine ⟨n, r2, ⟨by omega, by omega, by omega, by omega, by omega⟩, fun l nl => ?_⟩
        have e : rgV 0 n = (List.range n.toNat).map fun (i : Nat) => V.int (0 + i) := by
          unfold rgV
          rw [show (n - 0).toNat = n.toNat by omega]
        rw [e]
        exact tLx.fin F2 q2 nl (RL.range 0 n.toNat)
      · exact q2.elim
    | _ => exact q2.elim
def mLOf (a : M Sq) : M (List D) := fun env h => bnd (a env h) fun q h => .ok q.2 h
theorem l_of (hm : X.mg "list" = none) (ha : PE X a (tQ X.K Wx mq)) (hg : Gl X "list" := by rfl) (he : starEach (a :: []) X.env = (false, eval a X.env) :: starEach [] X.env := by rfl) (hpl : (backTo pos (starEach [] X.env)).any (·.1) = false := by rfl) :
    PE X (.Call (.Name "list" p) [a] [] pos) (tL X.K Wx (mLOf mq)) :=
  peI (pe_callTy call_list_of hg hm bt_list (pa_cons ha pa_nil he) (by decide) (by decide) he hpl) fun σ H Q ⟨fr, w, P, env, h, F, q⟩ => oneL F q fun qq w2 h2 x H2 F2 r2 _ q2 => by
    obtain ⟨p, vs, rfl, _, hs, rl⟩ := r2
    exact ⟨p, vs, rfl, RQ.sq hs, fun l nl => tLx.fin F2 q2 nl rl⟩
/-! ### slices -/
abbrev tOo (K : PySem.W.Frag) (Wx : WX) (m : M (Option Int)) : TO := tG (REq (Option Int)) K Wx m
def oNone : M (Option Int) := fun _ h => .ok none h
def oSome (a : M D) : M (Option Int) := fun env h => bnd (a env h) fun d h => match d with
  | .int i => .ok (some i) h
  | _ => .stuck
theorem poI {e : Option Expr} {t t' : TO} (h : PO X e t) (i : ∀ σ H Q, t' σ H Q → t σ H Q) : PO X e t' := ⟨fun pins s σ H Q I q => h.run pins s σ H Q I (i σ H Q q)⟩
theorem o_none : PO X none (tOo X.K Wx oNone) := poI po_none fun σ H Q ⟨fr, w, P, env, h, F, q⟩ => tX.fin F q rfl
theorem o_some (ha : PE X a (tE X.K Wx ma)) : PO X (some a) (tOo X.K Wx (oSome ma)) := poI (po_some ha) fun σ H Q ⟨fr, w, P, env, h, F, q⟩ => one' F q fun d w2 h2 x H2 F2 r2 _ q2 => by
  cases d with
  | int i =>
    rw [R] at r2
    exact ⟨i, r2, tX.fin F2 q2 rfl⟩
  | _ => exact q2.elim
def cutD (xs : List D) (lo hi : Option Int) : List D := (xs.drop (HT.sIx xs.length 0 lo)).take (HT.sIx xs.length xs.length hi - HT.sIx xs.length 0 lo)
theorem RL.cut {w : Wd} {B : Bz} {H : Hp} {ds : List D} {vs : List V} {lo hi : Option Int} (r : RL w B H ds vs) : RL w B H (cutD ds lo hi) (cutV vs lo hi) := by
  unfold cutD cutV
  rw [r.len]
  exact (r.drop _).take _
def ofSq (q : Sq) : D := if q.1 = true then .tup q.2 else .lst q.2
def mSlc (a : M Sq) (lo hi : M (Option Int)) : M D := fun env h => bnd (a env h) fun q h => bnd (lo env h) fun l h => bnd (hi env h) fun u h => .ok (ofSq (q.1, cutD q.2 l u)) h
theorem e_slc {lo hi : Option Expr} {mlo mhi : M (Option Int)} (ha : PE X a (tE X.K Wx ma)) (hl : PO X lo (tOo X.K Wx mlo)) (hh : PO X hi (tOo X.K Wx mhi)) : PE X (.Subscript a (.Slice lo hi none p2) pos) (tE X.K Wx (mSlc (mSq ma) mlo mhi)) :=
  peI (pe_slice (SlR.or sl_list sl_tupA) ha hl hh) fun σ H Q ⟨fr, w, P, env, h, F, q⟩ => by
    have q' : tX R X.K Wx fr w P σ H (bnd (ma env h) fun d h => bnd (lift (sqOf d) h) fun q h => bnd (mlo env h) fun l h => bnd (mhi env h) fun u h => .ok (ofSq (q.1, cutD q.2 l u)) h) Q := by
      unfold mSlc mSq at q
      rw [bnd_assoc] at q
      exact q
    refine one' F q' fun d w1 h1 x H1 F1 r1 _ q1 => ?_
    cases es : sqOf d with
    | none => rw [es] at q1; exact q1.elim
    | some qq =>
      rw [es] at q1
      refine one' F1 q1 fun l w2 h2 l' H2 F2 e2 g2 q2 => ?_
      cases (show l = l' from e2)
      refine one' F2 q2 fun u w3 h3 u' H3 F3 e3 g3 q3 => ?_
      cases (show u = u' from e3)
      have r3 := R.keep (g2.trans g3).rho (g2.trans g3).keepB _ _ r1
      cases d with
      | lst ds =>
        rw [R] at r3
        obtain ⟨a, vs, rfl, nb, ha, rl⟩ := r3
        cases es
        exact .inl ⟨a, vs, rfl, .of ha, fun p n => lst_fin F3 q3 n rl.cut⟩
      | scr ns =>
        rw [R] at r3
        obtain ⟨a, rfl, nb, ha⟩ := r3
        cases es
        exact .inl ⟨a, _, rfl, .inl ha, fun p n => lst_fin F3 q3 n (RL.ints ns).cut⟩
      | tup ds =>
        rw [R] at r3
        obtain ⟨a, vs, rfl, nb, ha, rl⟩ := r3
        cases es
        refine .inr ⟨a, vs, rfl, .of ha, fun z => ?_, fun _ p n => tup_fin F3 q3 n rl.cut⟩
        refine tX.fin F3 q3 ?_
        have e : cutD ds l u = ds := by
          unfold cutD
          rw [rl.len] at z
          rw [z.1, z.2]
          simp
        show R w3 _ H3 (.tup (cutD ds l u)) (.ref a)
        rw [e, R]
        exact ⟨a, vs, rfl, nb, ha, rl⟩
      | _ => cases es
/-! ### min of three -/
def fMin3 : List D → Option D
  | [.int i, .int j, .int k] => some (.int (if k < (if j < i then j else i) then k else (if j < i then j else i)))
  | _ => none
end
end Fx

namespace Fx
open PySem
open L2
/-! ### len(set(whole numbers)) -/
def ddup : List Int → List Int
  | [] => []
  | x :: xs => if x ∈ xs then ddup xs else x :: ddup xs
theorem mem_ddup {k : Int} : ∀ {l : List Int}, k ∈ ddup l ↔ k ∈ l
  | [] => Iff.rfl
  | x :: xs => by
    unfold ddup
    split
    · rename_i h
      rw [mem_ddup]
      constructor
      · exact fun z => List.mem_cons_of_mem _ z
      · intro z
        rcases List.mem_cons.mp z with z | z
        · rw [z]; exact h
        · exact z
    · rw [List.mem_cons, List.mem_cons, mem_ddup]
theorem nodup_ddup : ∀ l : List Int, (ddup l).Nodup
  | [] => List.nodup_nil
  | x :: xs => by
    unfold ddup
    split
    · exact nodup_ddup xs
    · rename_i h
      exact List.nodup_cons.mpr ⟨fun z => h (mem_ddup.mp z), nodup_ddup xs⟩
theorem ddup_le : ∀ l : List Int, (ddup l).length ≤ l.length
  | [] => Nat.le_refl _
  | x :: xs => by
    unfold ddup
    split
    · exact Nat.le_succ_of_le (ddup_le xs)
    · exact Nat.succ_le_succ (ddup_le xs)
/-- as many as there are, just if none stands twice -/
theorem ddup_len : ∀ l : List Int, (ddup l).length = l.length ↔ l.Nodup
  | [] => by simp [ddup]
  | x :: xs => by
    unfold ddup
    rw [List.nodup_cons]
    split
    · rename_i h
      have := ddup_le xs
      constructor
      · intro z; simp at z; omega
      · exact fun z => absurd h z.1
    · rename_i h
      rw [List.length_cons, List.length_cons, Nat.succ.injEq, ddup_len xs]
      exact ⟨fun z => ⟨h, z⟩, fun z => z.2⟩
theorem len_of_same {l m : List Int} (h1 : l.Nodup) (h2 : m.Nodup) (h : ∀ k, k ∈ l ↔ k ∈ m) : l.length = m.length :=
  Nat.le_antisymm (List.Nodup.length_le_of_subset h1 (fun k hk => (h k).mp hk)) (List.Nodup.length_le_of_subset h2 (fun k hk => (h k).mpr hk))
theorem firstMet_nd (val : Nat → Int) : ∀ i, (PyProof.Rows.firstMet val i).Nodup
  | 0 => by rw [PyProof.Rows.firstMet_zero]; exact List.nodup_nil
  | i + 1 => by
    rw [PyProof.Rows.firstMet_succ]
    unfold PyProof.Rows.step_dedup
    split
    · exact firstMet_nd val i
    · rename_i h
      have h' : val i ∉ PyProof.Rows.firstMet val i := by
        intro z
        apply h
        rw [List.any_eq_true]
        exact ⟨_, z, by simp⟩
      rw [List.nodup_append]
      exact ⟨firstMet_nd val i, by simp, fun a ha b hb e => by simp at hb; subst hb; exact h' (e ▸ ha)⟩

theorem sz63 {n : Nat} (h : n ≤ 4000) : (n : Int) < 2 ^ 63 := by omega
section
variable {X : Cx} {Wx : WX} {a b c e tg iter elt : Expr} {es ifs : List Expr} {pos p p2 apos cpos spos : Pos} {ma mb mc me : M D} {mt mu : M Bool} {mr ml mi : M (List D)} {mq mp : M Sq} {mm : M (D × Env')} {st : Stmt} {sts body : List Stmt} {m m' : MS}
/-- len(set(a)), a tuple or a list of whole numbers -/
def tLenSet' (K : PySem.W.Frag) (ta : TE) : TE := fun σ H Q => ta σ H fun x H1 => ∃ (l : Addr) (ns : List Int), x = .ref l ∧ (SqT K H1 l (ns.map V.int) ∨ SqL K H1 l (ns.map V.int)) ∧ ns.length ≤ 4000 ∧ Q (.int ((ddup ns).length : Nat)) H1
theorem pe_lenSet' {ta : TE} (hm : X.mg "len" = none) (hm2 : X.mg "set" = none) (ha : PE X a ta) (hg : Gl X "len") (hg2 : Gl X "set") (hc : X.calm = true) (na : starEach [a] X.env = (false, eval a X.env) :: starEach [] X.env) :
    PE X (.Call (.Name "len" p) [.Call (.Name "set" p2) [a] [] cpos] [] pos) (tLenSet' X.K ta) := by
  refine ⟨fun pins s σ H Q I h => ?_⟩
  refine PyProof.Rows.Call_ (ld_blt I hg hm bb_len ?_)
  refine PyProof.Rows.callWith_builtin1 (PyProof.Rows.args_cons ?_ rfl) rfl rfl
  refine PyProof.Rows.Call_ (ld_blt I hg2 hm2 bt_set ?_)
  refine PyProof.Rows.callWith_type1 (PyProof.Rows.args_cons (thn (ha.run pins s σ H _ I h) fun v s1 ⟨x, H1, I1, r1, q1⟩ => PyProof.Rows.args_nil ?_) na) na rfl
  obtain ⟨l, ns, rfl, hq, hl, q1⟩ := q1
  cases r1
  rcases hq with hq | hq
  · obtain ⟨its, r, pl, hz⟩ := I1.tuple hq
    refine call_set_tupI ns (I1.ok.hd hc) (show s1.heap.IsTuple l its.toArray from pl) (by simpa using RZ.intsAre_vals r) (by unfold PySem.scanBound; omega) fun h' tk cn hS hcn hk => ?_
    refine PyProof.Rows.args_nil ?_
    obtain ⟨o, es', ep, t, ho, hex, hd, _, hnd, hmem, _, hf, hn, _⟩ := hS
    have I2 : Inv X pins σ H1 { s1 with heap := h', toks := tk } := I1.kept hk
    have el : es'.size = (ddup ns).length := by
      have e1 : (es'.toList.map keyOf).length = (ddup ns).length := len_of_same hnd (nodup_ddup ns) fun k => by
        rw [← hmem k, mem_ddup]
        exact ⟨fun z => of_decide_eq_true z, fun z => decide_eq_true z⟩
      simpa using e1
    have le := ddup_le ns
    exact call_len_set ho hex hd hf (by rw [el]; exact sz63 (by omega)) ⟨.int (ddup ns).length, H1, I2.tok _, ⟨_, by rw [el]⟩, q1⟩
  · obtain ⟨its, r, pl, hz⟩ := I1.list hq
    have hlen : its.toArray.size = ns.length := by rw [List.size_toArray, ← r.length, List.length_map]
    refine PySem.call_set_list (I1.ok.hd hc) pl.isList (by simpa using RZ.intsAre_vals r) (by rw [hlen]; unfold PySem.scanBound; omega) fun h' tk hS hk => ?_
    refine PyProof.Rows.args_nil ?_
    obtain ⟨o, es', ep, t, ho, hex, hd, _, _, _, hf, hn⟩ := hS
    have I2 : Inv X pins σ H1 { s1 with heap := h', toks := tk } := I1.kept fun b o e => hk b o (Heap.lt_size e) e
    have el : es'.size = (ddup ns).length := by
      rw [hn, hlen]
      refine len_of_same (firstMet_nd _ _) (nodup_ddup ns) fun k => ?_
      rw [mem_ddup]
      have z := PyProof.Rows.firstMet_any (fun i => ns.getD i 0) ns.length k
      have e2 : (List.range ns.length).map (fun i => ns.getD i 0) = ns := by
        apply List.ext_getElem?
        intro i
        rw [List.getElem?_map]
        by_cases hi : i < ns.length
        · rw [List.getElem?_range hi, List.getElem?_eq_getElem hi]
          simp [List.getD, hi]
        · rw [List.getElem?_eq_none (by simpa using hi), List.getElem?_eq_none (by simpa using hi)]
          rfl
      rw [e2] at z
      constructor
      · intro hk
        have : (PyProof.Rows.firstMet (fun i => ns.getD i 0) ns.length).any (· == k) = true := List.any_eq_true.mpr ⟨k, hk, by simp⟩
        rw [z] at this
        obtain ⟨y, hy, e⟩ := List.any_eq_true.mp this
        have : y = k := by simpa using e
        exact this ▸ hy
      · intro hk
        have : ns.any (· == k) = true := List.any_eq_true.mpr ⟨k, hk, by simp⟩
        rw [← z] at this
        obtain ⟨y, hy, e⟩ := List.any_eq_true.mp this
        have : y = k := by simpa using e
        exact this ▸ hy
    have le := ddup_le ns
    exact call_len_set ho hex hd hf (by rw [el]; exact sz63 (by omega)) ⟨.int (ddup ns).length, H1, I2.tok _, ⟨_, by rw [el]⟩, q1⟩
def qLenSet (q : Sq) : Option D := match intsOf q.2 with
  | some ns => if ns.length ≤ 4000 then some (.int ((ddup ns).length : Nat)) else none
  | none => none
theorem e_lenSet (hm : X.mg "len" = none) (hm2 : X.mg "set" = none) (ha : PE X a (tQ X.K Wx mq)) (hg : Gl X "len" := by rfl) (hg2 : Gl X "set" := by rfl) (hc : X.calm = true := by rfl) (na : starEach [a] X.env = (false, eval a X.env) :: starEach [] X.env := by rfl) :
    PE X (.Call (.Name "len" p) [.Call (.Name "set" p2) [a] [] cpos] [] pos) (tE X.K Wx (mQ qLenSet mq)) :=
  peI (pe_lenSet' hm hm2 ha hg hg2 hc na) fun σ H Q ⟨fr, w, P, env, h, F, q⟩ => one' F q fun qq w2 h2 x H2 F2 r2 _ q2 => by
    obtain ⟨p, vs, rfl, _, hs, rl⟩ := r2
    unfold qLenSet at q2
    cases e : intsOf qq.2 with
    | none => rw [e] at q2; exact q2.elim
    | some ns =>
      rw [e] at q2
      dsimp only at q2
      split at q2
      · rename_i z
        have ev := ints_ok rl e
        subst ev
        refine ⟨p, ns, rfl, ?_, z, tX.fin F2 q2 (by rw [R])⟩
        rcases hs with ⟨_, hs⟩ | ⟨_, hs⟩
        · exact .inr (.inl hs)
        · exact .inl (.of hs)
      · exact q2.elim
end
end Fx

namespace Fx
open PySem
open L2
/-! ### order of data -/
def ltD (a b : D) : Bool := PySem.W.dataLt (toPy a) (toPy b)
def alikeD (a b : D) : Bool := PySem.W.alike (toPy a) (toPy b) && !isNonD a && !isNonD b
theorem alikeD_ok {a b : D} (ha : dpt a ≤ 60) (hb : dpt b ≤ 60) (h : alikeD a b = true) : PySem.W.alike (toPy a) (toPy b) = true ∧ toPy a ≠ .none ∧ toPy b ≠ .none := by
  unfold alikeD at h
  rw [Bool.and_eq_true, Bool.and_eq_true] at h
  refine ⟨h.1.1, fun z => ?_, fun z => ?_⟩
  · have e : a = .non := toPy_inj a .non ha (by rw [dpt]; omega) (by rw [z, toPy])
    rw [e] at h
    exact absurd h.1.2 (by simp [isNonD])
  · have e : b = .non := toPy_inj b .non hb (by rw [dpt]; omega) (by rw [z, toPy])
    rw [e] at h
    exact absurd h.2 (by simp [isNonD])
def rLtD (K : PySem.W.Frag) : R2 := fun x y H Q => ∃ d e, Dp K H x d ∧ Dp K H y e ∧ PySem.W.alike d e = true ∧ d ≠ .none ∧ d.depth ≤ 64 ∧ Q (.bl (PySem.W.dataLt d e)) H
section
variable {X : Cx} {Wx : WX} {a b c e tg iter elt : Expr} {es ifs : List Expr} {pos p p2 apos cpos spos : Pos} {ma mb mc me : M D} {mt mu : M Bool} {mr ml mi : M (List D)} {mq mp : M Sq} {mm : M (D × Env')} {st : Stmt} {sts body : List Stmt} {m m' : MS}
theorem op_ltD (hu : X.A.units + 64 < cLine) : OpR X (compareOp .Lt) (rLtD X.K) := by
  intro pins s σ H x y v u Q I rx ry h
  obtain ⟨d, d', hd, he, ha, hn, dd, q⟩ := h
  obtain ⟨as, r1⟩ := Dp.reads I d x v hd rx
  obtain ⟨bs, r2⟩ := Dp.reads I d' y u he ry
  exact PySem.W.rcLt_alike d d' X.A s v u as bs r1 r2 ha hn (by have : min d.depth d'.depth ≤ d.depth := Nat.min_le_left _ _; omega) _ _ _ _ ⟨.bl _, H, I, rfl, q⟩
def gLtD (a b : D) : Option Bool := if dpt a ≤ 60 ∧ dpt b ≤ 60 ∧ alikeD a b = true then some (ltD a b) else none
theorem sb_ltD {K : PySem.W.Frag} : SB K (rLtD K) gLtD := by
  intro w B H a b x y k Q ra rb e q
  unfold gLtD at e
  split at e
  · rename_i h
    cases e
    obtain ⟨z1, z2, _⟩ := alikeD_ok h.1 h.2.1 h.2.2
    obtain ⟨_, z3⟩ := lay_of a h.1
    exact ⟨_, _, dp_of a x ra h.1, dp_of b y rb h.2.1, z1, z2, by omega, q⟩
  · cases e
/-! ### min, max of a list of data -/
def allAlike (ds : List D) : Bool := ds.all fun a => ds.all fun b => alikeD a b
theorem allAlike_ok {ds : List D} (hd : dptL ds ≤ 60) (h : allAlike ds = true) : PySem.W.AlikeAll (toPyL ds) := by
  have dm : ∀ (l : List D) a, a ∈ l → dptL l ≤ 60 → dpt a ≤ 60 := by
    intro l
    induction l with
    | nil => intro a ha; cases ha
    | cons c r ih =>
      intro a ha h
      rw [dptL] at h
      rcases List.mem_cons.mp ha with z | z
      · rw [z]; omega
      · exact ih a z (by omega)
  rw [toPyL_map]
  unfold allAlike at h
  have al : ∀ a ∈ ds, ∀ b ∈ ds, alikeD a b = true := fun a ha b hb => List.all_eq_true.mp (List.all_eq_true.mp h a ha) b hb
  refine ⟨fun x hx y hy => ?_, fun x hx => ?_⟩
  · obtain ⟨a, ha, rfl⟩ := List.mem_map.mp hx
    obtain ⟨b, hb, rfl⟩ := List.mem_map.mp hy
    exact (alikeD_ok (dm ds a ha hd) (dm ds b hb hd) (al a ha b hb)).1
  · obtain ⟨a, ha, rfl⟩ := List.mem_map.mp hx
    exact (alikeD_ok (dm ds a ha hd) (dm ds a ha hd) (al a ha a ha)).2.1
theorem dpt_mem : ∀ {l : List D} {a : D}, a ∈ l → dptL l ≤ 60 → dpt a ≤ 60
  | c :: r, a, ha, h => by
    rw [dptL] at h
    rcases List.mem_cons.mp ha with z | z
    · rw [z]; omega
    · exact dpt_mem z (by omega)
def minF (d : D) (ds : List D) : D := ds.foldl (fun a y => if ltD y a = true then y else a) d
def maxF (d : D) (ds : List D) : D := ds.foldl (fun a y => if ltD a y = true then y else a) d
theorem minF_py : ∀ (ds : List D) (d : D), toPy (minF d ds) = PySem.W.minD (toPy d) (toPyL ds)
  | [], d => by rw [toPyL]; rfl
  | y :: ds, d => by
    have ih := minF_py ds (if ltD y d = true then y else d)
    rw [toPyL]
    show toPy (minF (if ltD y d = true then y else d) ds) = PySem.W.minD (if PySem.W.dataLt (toPy y) (toPy d) = true then toPy y else toPy d) (toPyL ds)
    rw [ih]
    unfold ltD
    by_cases z : PySem.W.dataLt (toPy y) (toPy d) = true
    · rw [if_pos z, if_pos z]
    · rw [if_neg z, if_neg z]
theorem maxF_py : ∀ (ds : List D) (d : D), toPy (maxF d ds) = PySem.W.maxD (toPy d) (toPyL ds)
  | [], d => by rw [toPyL]; rfl
  | y :: ds, d => by
    have ih := maxF_py ds (if ltD d y = true then y else d)
    rw [toPyL]
    show toPy (maxF (if ltD d y = true then y else d) ds) = PySem.W.maxD (if PySem.W.dataLt (toPy d) (toPy y) = true then toPy y else toPy d) (toPyL ds)
    rw [ih]
    unfold ltD
    by_cases z : PySem.W.dataLt (toPy d) (toPy y) = true
    · rw [if_pos z, if_pos z]
    · rw [if_neg z, if_neg z]
theorem minF_mem : ∀ (ds : List D) (d : D), minF d ds ∈ d :: ds
  | [], d => List.mem_cons_self
  | y :: ds, d => by
    have ih := minF_mem ds (if ltD y d = true then y else d)
    show minF (if ltD y d = true then y else d) ds ∈ d :: y :: ds
    rcases List.mem_cons.mp ih with z | z
    · rw [z]
      split
      · exact List.mem_cons_of_mem _ List.mem_cons_self
      · exact List.mem_cons_self
    · exact List.mem_cons_of_mem _ (List.mem_cons_of_mem _ z)
theorem maxF_mem : ∀ (ds : List D) (d : D), maxF d ds ∈ d :: ds
  | [], d => List.mem_cons_self
  | y :: ds, d => by
    have ih := maxF_mem ds (if ltD d y = true then y else d)
    show maxF (if ltD d y = true then y else d) ds ∈ d :: y :: ds
    rcases List.mem_cons.mp ih with z | z
    · rw [z]
      split
      · exact List.mem_cons_of_mem _ List.mem_cons_self
      · exact List.mem_cons_self
    · exact List.mem_cons_of_mem _ (List.mem_cons_of_mem _ z)
def rMinD (K : PySem.W.Frag) (best : PyData → List PyData → PyData) : List V → Hp → VK → Prop := fun xs H Q => ∃ a vs d ds, xs = [.ref a] ∧ SqL K H a vs ∧ DpAll K H vs (d :: ds) ∧ PySem.W.AlikeAll (d :: ds) ∧ PyData.canLayAll0 (d :: ds) = true ∧ PyData.depthAll (d :: ds) ≤ 62 ∧
  ∀ (i : Nat) x, vs[i]? = some x → (d :: ds)[i]? = some (best d ds) → Q x H
theorem cr_minD (hc : X.calm = true) (hu : X.A.units + 64 < cLine) : CallR X (.builtin "min") (rMinD X.K PySem.W.minD) := by
  intro pins s σ H xs us Q I r h
  obtain ⟨a, vs, d, ds, rfl, hs, dp, al, cl, dd, q⟩ := h
  obtain ⟨its, rv, pl, hz⟩ := I.list hs
  obtain ⟨as, hr⟩ := Dp.readsAll I (d :: ds) vs its dp rv
  rw [Vals.ref1 r]
  refine PySem.W.min_list_data (I.ok.hd hc) pl.isList (by simpa using hr) al (by omega) fun i v h' tk bs hv hr' hk => ?_
  have I2 : Inv X pins σ H { s with heap := h', toks := tk } := I.kept hk
  have hv' : its[i]? = some v := by simpa using hv
  have hl : i < vs.length := by rw [rv.length]; exact (List.getElem?_eq_some_iff.mp hv').1
  obtain ⟨u, e1, r1⟩ := rv.get (List.getElem?_eq_getElem hl)
  rw [hv'] at e1
  cases e1
  refine ⟨vs[i], H, I2, r1, q i _ (List.getElem?_eq_getElem hl) ?_⟩
  obtain ⟨bs', r2, z1, z2, z3⟩ := PySem.W.readsAll_at hr i v hv'
  have c1 : ((d :: ds).getD i .none).canLay0 = true := PyData.canLay0_of_mem _ _ cl z2
  have e2 := SeqAt.readOf_eq c1 r2
  have lt : i < (d :: ds).length := z1
  have e3 : (d :: ds)[i]? = some ((d :: ds).getD i .none) := by simp [List.getD, List.getElem?_eq_getElem lt]
  rw [e3]
  -- both read off the same value
  have hmem : PySem.W.minD d ds ∈ d :: ds := by
    clear q hr' e3 e2 c1 z3 z2 z1 r2 lt
    have aux : ∀ (l : List PyData) (x : PyData), PySem.W.minD x l ∈ x :: l := by
      intro l
      induction l with
      | nil => intro x; exact List.mem_cons_self
      | cons y l ih =>
        intro x
        have := ih (if PySem.W.dataLt y x = true then y else x)
        show PySem.W.minD (if PySem.W.dataLt y x = true then y else x) l ∈ x :: y :: l
        rcases List.mem_cons.mp this with z | z
        · rw [z]
          split
          · exact List.mem_cons_of_mem _ List.mem_cons_self
          · exact List.mem_cons_self
        · exact List.mem_cons_of_mem _ (List.mem_cons_of_mem _ z)
    exact aux ds d
  have c2 : (PySem.W.minD d ds).canLay0 = true := PyData.canLay0_of_mem _ _ cl hmem
  have e4 := SeqAt.readOf_eq c2 hr'
  have e5 := SeqAt.readOf_eq c1 (PySem.W.reads_keeps hk r2)
  rw [← e5, e4]
theorem cr_maxD (hc : X.calm = true) (hu : X.A.units + 64 < cLine) : CallR X (.builtin "max") (rMinD X.K PySem.W.maxD) := by
  intro pins s σ H xs us Q I r h
  obtain ⟨a, vs, d, ds, rfl, hs, dp, al, cl, dd, q⟩ := h
  obtain ⟨its, rv, pl, hz⟩ := I.list hs
  obtain ⟨as, hr⟩ := Dp.readsAll I (d :: ds) vs its dp rv
  rw [Vals.ref1 r]
  refine PySem.W.max_list_data (I.ok.hd hc) pl.isList (by simpa using hr) al (by omega) fun i v h' tk bs hv hr' hk => ?_
  have I2 : Inv X pins σ H { s with heap := h', toks := tk } := I.kept hk
  have hv' : its[i]? = some v := by simpa using hv
  have hl : i < vs.length := by rw [rv.length]; exact (List.getElem?_eq_some_iff.mp hv').1
  obtain ⟨u, e1, r1⟩ := rv.get (List.getElem?_eq_getElem hl)
  rw [hv'] at e1
  cases e1
  refine ⟨vs[i], H, I2, r1, q i _ (List.getElem?_eq_getElem hl) ?_⟩
  obtain ⟨bs', r2, z1, z2, z3⟩ := PySem.W.readsAll_at hr i v hv'
  have c1 : ((d :: ds).getD i .none).canLay0 = true := PyData.canLay0_of_mem _ _ cl z2
  have lt : i < (d :: ds).length := z1
  have e3 : (d :: ds)[i]? = some ((d :: ds).getD i .none) := by simp [List.getD, List.getElem?_eq_getElem lt]
  rw [e3]
  have hmem : PySem.W.maxD d ds ∈ d :: ds := by
    clear q hr' e3 c1 z3 z2 z1 r2 lt
    have aux : ∀ (l : List PyData) (x : PyData), PySem.W.maxD x l ∈ x :: l := by
      intro l
      induction l with
      | nil => intro x; exact List.mem_cons_self
      | cons y l ih =>
        intro x
        have := ih (if PySem.W.dataLt x y = true then y else x)
        show PySem.W.maxD (if PySem.W.dataLt x y = true then y else x) l ∈ x :: y :: l
        rcases List.mem_cons.mp this with z | z
        · rw [z]
          split
          · exact List.mem_cons_of_mem _ List.mem_cons_self
          · exact List.mem_cons_self
        · exact List.mem_cons_of_mem _ (List.mem_cons_of_mem _ z)
    exact aux ds d
  have c2 : (PySem.W.maxD d ds).canLay0 = true := PyData.canLay0_of_mem _ _ cl hmem
  have e4 := SeqAt.readOf_eq c2 hr'
  have e5 := SeqAt.readOf_eq c1 (PySem.W.reads_keeps hk r2)
  rw [← e5, e4]
def qMin (q : Sq) : Option D := match q with
  | (false, d :: ds) => if dptL (d :: ds) ≤ 60 ∧ allAlike (d :: ds) = true then some (minF d ds) else none
  | _ => none
def qMax (q : Sq) : Option D := match q with
  | (false, d :: ds) => if dptL (d :: ds) ≤ 60 ∧ allAlike (d :: ds) = true then some (maxF d ds) else none
  | _ => none
theorem at_py {ds : List D} {i : Nat} {x : PyData} (e : (toPyL ds)[i]? = some x) : ∃ d, ds[i]? = some d ∧ x = toPy d := by
  rw [toPyL_map, List.getElem?_map] at e
  cases q : ds[i]? with
  | none => rw [q] at e; cases e
  | some d => rw [q] at e; cases e; exact ⟨d, rfl, rfl⟩
theorem sq_best {K : PySem.W.Frag} {best : PyData → List PyData → PyData} {bF : D → List D → D} (hp : ∀ ds d, toPy (bF d ds) = best (toPy d) (toPyL ds)) (hm : ∀ ds d, bF d ds ∈ d :: ds) :
    SQ K (rMinD K best) fun q => match q with
      | (false, d :: ds) => if dptL (d :: ds) ≤ 60 ∧ allAlike (d :: ds) = true then some (bF d ds) else none
      | _ => none := by
  intro Wx fr w P env h σ H q x Q F r t
  obtain ⟨p, vs, rfl, _, hs, rl⟩ := r
  obtain ⟨b, l⟩ := q
  cases b with
  | true => exact t.elim
  | false =>
    cases l with
    | nil => exact t.elim
    | cons d ds =>
      dsimp only at t
      split at t
      · rename_i z
        obtain ⟨c1, c2⟩ := lay_ofL (d :: ds) z.1
        have al := allAlike_ok z.1 z.2
        have dp := dp_ofL (K := K) (d :: ds) vs rl z.1
        rw [toPyL] at c1 c2 al dp
        rcases hs with ⟨_, hs⟩ | ⟨z, _⟩
        · refine ⟨p, vs, toPy d, toPyL ds, rfl, .inl hs, dp, al, c1, by omega, fun i y ey eb => ?_⟩
          have eb' : (toPyL (d :: ds))[i]? = some (best (toPy d) (toPyL ds)) := by rw [toPyL]; exact eb
          obtain ⟨di, ei, e2⟩ := at_py eb'
          rw [← hp] at e2
          have e3 : bF d ds = di := toPy_inj _ _ (dpt_mem (hm ds d) z.1) (dpt_mem (List.mem_of_getElem? ei) z.1) e2
          obtain ⟨v, ev, rv⟩ := at_ok i rl ei
          rw [ey] at ev
          cases ev
          exact tX.fin F t (by rw [e3]; exact rv)
        · cases z
      · exact t.elim
theorem e_min {k : Nat} (hm : X.mg "min" = none) (hr : Room k X.A) (ha : PE X a (tQ X.K Wx mq)) (hg : Gl X "min" := by rfl) (hc : X.calm = true := by rfl) (he : starEach (a :: []) X.env = (false, eval a X.env) :: starEach [] X.env := by rfl) (hpl : (backTo pos (starEach [] X.env)).any (·.1) = false := by rfl) :
    PE X (.Call (.Name "min" p) [a] [] pos) (tE X.K Wx (mQ qMin mq)) := e_fnQ (cr_minD hc hr.units) (sq_best minF_py minF_mem) hm bb_min ha hg (by decide) (by decide) he hpl
theorem e_max {k : Nat} (hm : X.mg "max" = none) (hr : Room k X.A) (ha : PE X a (tQ X.K Wx mq)) (hg : Gl X "max" := by rfl) (hc : X.calm = true := by rfl) (he : starEach (a :: []) X.env = (false, eval a X.env) :: starEach [] X.env := by rfl) (hpl : (backTo pos (starEach [] X.env)).any (·.1) = false := by rfl) :
    PE X (.Call (.Name "max" p) [a] [] pos) (tE X.K Wx (mQ qMax mq)) := e_fnQ (cr_maxD hc hr.units) (sq_best maxF_py maxF_mem) hm bb_max ha hg (by decide) (by decide) he hpl
/-! ### sorted -/
def sortD (ds : List D) : List D := ds.mergeSort (PySem.W.dataLe false toPy)
def sortable (ds : List D) : Bool := (ds.all fun d => match d with | .tup (_ :: _) => true | _ => false) || (ds.all fun d => match d with | .tup _ => false | .non => false | _ => true)
def rSortD (K : PySem.W.Frag) : List V → Hp → VK → Prop := fun xs H Q => ∃ (a : Addr) (bs : List (D × V)), xs = [.ref a] ∧ SqL K H a (bs.map (·.2)) ∧ (∀ b ∈ bs, Dp K H b.2 (toPy b.1)) ∧ PySem.W.AllAlike (bs.map fun b => toPy b.1) ∧ PySem.W.Sortable (bs.map fun b => toPy b.1) ∧
  (∀ b ∈ bs, (toPy b.1).depth ≤ 60) ∧ ∀ p, H p = none → Q (.ref p) (upd H p (.lst ((bs.mergeSort (PySem.W.dataLe false fun b => toPy b.1)).map (·.2))))
theorem cr_sortD (hu : X.A.units + 64 < cLine) : CallR X (.builtin "sorted") (rSortD X.K) := by
  intro pins s σ H xs us Q I r h
  obtain ⟨a, bs, rfl, hs, dp, al, so, dd, q⟩ := h
  obtain ⟨its, rv, pl, hz⟩ := I.list hs
  rw [Vals.ref1 r]
  have e1 : PySem.W.EachIs (fun (u : Value) (b : D × V) => RelV b.2 u) its bs := by
    clear hs hz dp al so dd q pl
    induction bs generalizing its with
    | nil => cases rv; exact .nil
    | cons b bs ih =>
      cases rv with
      | cons r1 r2 => exact .cons r1 (ih _ r2)
  have e2 : PySem.W.EachIs (fun (u : Value) (b : D × V) => ∃ as, Reads s.heap u (toPy b.1) as) its bs := by
    clear hs hz al so dd q pl e1
    induction bs generalizing its with
    | nil => cases rv; exact .nil
    | cons b bs ih =>
      cases rv with
      | cons r1 r2 => exact .cons (Dp.reads I _ _ _ (dp b List.mem_cons_self) r1) (ih (fun b hb => dp b (List.mem_cons_of_mem _ hb)) _ r2)
  have hlen : bs.length ≤ sizeLine := by simpa using hz
  refine PySem.W.sorted_data (R := fun (u : Value) (b : D × V) => RelV b.2 u) (enc := fun b : D × V => toPy b.1) pl.isList e1 e2 al so hlen (fun b hb => by have := dd b hb; omega) fun out ho hout => ?_
  obtain ⟨ep, he'⟩ := PyProof.Rows.sortedAll_at s.heap its out.toArray
  have hv : Vals ((bs.mergeSort (PySem.W.dataLe false fun b => toPy b.1)).map (·.2)) out := by
    clear ho he'
    generalize bs.mergeSort (PySem.W.dataLe false fun b => toPy b.1) = l at hout
    induction hout with
    | nil => exact .nil
    | cons r _ ih => exact .cons r ih
  have hl2 : ((bs.mergeSort (PySem.W.dataLe false fun b => toPy b.1)).map (·.2)).length ≤ sizeLine := by
    rw [List.length_map, List.length_mergeSort]
    exact hlen
  exact ⟨.ref _, upd H (s.heap.objs.size + 1) (.lst _), I.laid (t' := s.toks) (fun _ _ => PyProof.Rows.sortedAll_old) (Nat.le_succ _) ⟨hl2, out, ep, hv, he'⟩, rfl, q _ (I.hok.fresh (Nat.le_succ _))⟩
def qSorted (q : Sq) : Option D := if q.1 = false ∧ dptL q.2 ≤ 60 ∧ allAlike q.2 = true ∧ sortable q.2 = true then some (.lst (sortD q.2)) else none
theorem RL.zip {w : Wd} {B : Bz} {H : Hp} : ∀ {ds : List D} {vs : List V}, RL w B H ds vs → ((ds.zip vs).map (·.1) = ds ∧ (ds.zip vs).map (·.2) = vs) ∧ ∀ b ∈ ds.zip vs, R w B H b.1 b.2 ∧ b.1 ∈ ds
  | [], vs, r => by
    rw [RL] at r
    subst r
    exact ⟨⟨rfl, rfl⟩, fun b hb => by cases hb⟩
  | d :: ds, vs, r => by
    rw [RL] at r
    obtain ⟨v, t, rfl, r1, r2⟩ := r
    obtain ⟨⟨e1, e2⟩, m⟩ := RL.zip r2
    rw [List.zip_cons_cons]
    refine ⟨⟨by rw [List.map_cons, e1], by rw [List.map_cons, e2]⟩, fun b hb => ?_⟩
    rcases List.mem_cons.mp hb with z | z
    · subst z; exact ⟨r1, List.mem_cons_self⟩
    · exact ⟨(m b z).1, List.mem_cons_of_mem _ (m b z).2⟩
theorem RL.ofPairs {w : Wd} {B : Bz} {H : Hp} : ∀ {bs : List (D × V)}, (∀ b ∈ bs, R w B H b.1 b.2) → RL w B H (bs.map (·.1)) (bs.map (·.2))
  | [], _ => by rw [List.map_nil, List.map_nil, RL]
  | b :: bs, h => by
    rw [List.map_cons, List.map_cons, RL]
    exact ⟨_, _, rfl, h b List.mem_cons_self, RL.ofPairs fun c hc => h c (List.mem_cons_of_mem _ hc)⟩
theorem sq_sorted {K : PySem.W.Frag} : SQ K (rSortD K) qSorted := by
  intro Wx fr w P env h σ H q x Q F r t
  obtain ⟨p, vs, rfl, _, hs, rl⟩ := r
  obtain ⟨b, ds⟩ := q
  unfold qSorted at t
  split at t
  · rename_i z
    obtain ⟨zb, zd, za, zs⟩ := z
    dsimp only at zb zd za zs t
    subst zb
    have rl : RL w (Bu fr.O P w) H ds vs := rl
    obtain ⟨⟨e1, e2⟩, m⟩ := rl.zip
    rcases hs with ⟨_, hs⟩ | ⟨z, _⟩
    · have em : (ds.zip vs).map (fun b => toPy b.1) = ds.map toPy := by
        conv => rhs; rw [← e1]
        rw [List.map_map]
        rfl
      refine ⟨p, ds.zip vs, rfl, by rw [e2]; exact .inl hs, fun b hb => dp_of b.1 b.2 (m b hb).1 (dpt_mem (m b hb).2 zd), ?_, ?_, fun b hb => Nat.le_trans (lay_of b.1 (dpt_mem (m b hb).2 zd)).2 (dpt_mem (m b hb).2 zd), fun l nl => ?_⟩
      · have := (allAlike_ok zd za).1
        rw [toPyL_map] at this
        rw [em]
        exact this
      · rw [em]
        unfold sortable at zs
        rw [Bool.or_eq_true] at zs
        rcases zs with zs | zs
        · refine .inl fun d hd => ?_
          obtain ⟨c, hc, rfl⟩ := List.mem_map.mp hd
          have := List.all_eq_true.mp zs c hc
          revert this
          cases c with
          | tup l =>
            cases l with
            | nil => intro h; cases h
            | cons y l => intro _; rw [toPy, toPyL]; exact ⟨_, _, rfl⟩
          | _ => intro h; cases h
        · refine .inr fun d hd => ?_
          obtain ⟨c, hc, rfl⟩ := List.mem_map.mp hd
          have := List.all_eq_true.mp zs c hc
          have hdp := dpt_mem hc zd
          revert this
          cases c with
          | tup l => intro h; cases h
          | non => intro h; cases h
          | ref l => rw [dpt] at hdp; omega
          | fn l => rw [dpt] at hdp; omega
          | _ => intro _; rw [toPy]; exact ⟨fun z => (by cases z), fun xs z => (by cases z)⟩
      · have e3 : ((ds.zip vs).mergeSort (PySem.W.dataLe false fun b => toPy b.1)).map (·.1) = sortD ds := by
          unfold sortD
          conv => rhs; rw [← e1]
          exact List.map_mergeSort fun a _ b _ => rfl
        refine lst_fin F t nl ?_
        rw [← e3]
        exact RL.ofPairs fun b hb => (m b (List.mem_mergeSort.mp hb)).1
    · cases z
  · exact t.elim
theorem e_sorted {k : Nat} (hm : X.mg "sorted" = none) (hr : Room k X.A) (ha : PE X a (tQ X.K Wx mq)) (hg : Gl X "sorted" := by rfl) (he : starEach (a :: []) X.env = (false, eval a X.env) :: starEach [] X.env := by rfl) (hpl : (backTo pos (starEach [] X.env)).any (·.1) = false := by rfl) :
    PE X (.Call (.Name "sorted" p) [a] [] pos) (tE X.K Wx (mQ qSorted mq)) := e_fnQ (cr_sortD hr.units) sq_sorted hm bb_sorted ha hg (by decide) (by decide) he hpl
end
end Fx

namespace Fx
open PySem
open L2
/-! ### sorted(set(a list of tuples of whole numbers)) -/
abbrev tupI (t : List Int) : D := .tup (t.map .int)
def tupsOf : List D → Option (List (List Int))
  | [] => some []
  | .tup xs :: r => match intsOf xs, tupsOf r with
    | some ns, some ts => some (ns :: ts)
    | _, _ => none
  | _ => none
theorem tupsOf_map (ts : List (List Int)) : tupsOf (ts.map tupI) = some ts := by
  induction ts with
  | nil => rfl
  | cons t ts ih =>
    show (match intsOf (t.map .int), tupsOf (ts.map tupI) with | some ns, some ts => some (ns :: ts) | _, _ => none) = _
    rw [intsOf_map, ih]
def insU (t : List Int) : List (List Int) → List (List Int)
  | [] => [t]
  | u :: r => if HT.lexLt t u = true then t :: u :: r else if t = u then u :: r else u :: insU t r
/-- rising, none twice -/
def sortU : List (List Int) → List (List Int)
  | [] => []
  | t :: r => insU t (sortU r)
theorem mem_insU {t x : List Int} : ∀ {l : List (List Int)}, x ∈ insU t l ↔ x = t ∨ x ∈ l
  | [] => by simp [insU]
  | u :: r => by
    unfold insU
    split
    · simp
    · split
      · rename_i h
        subst h
        simp
      · rw [List.mem_cons, List.mem_cons, mem_insU]
        constructor
        · rintro (z | z | z)
          · exact .inr (.inl z)
          · exact .inl z
          · exact .inr (.inr z)
        · rintro (z | z | z)
          · exact .inr (.inl z)
          · exact .inl z
          · exact .inr (.inr z)
theorem mem_sortU {x : List Int} : ∀ {l : List (List Int)}, x ∈ sortU l ↔ x ∈ l
  | [] => Iff.rfl
  | t :: r => by
    unfold sortU
    rw [mem_insU, mem_sortU, List.mem_cons]
theorem lex_trans : ∀ {a b c : List Int}, HT.lexLt a b = true → HT.lexLt b c = true → HT.lexLt a c = true
  | [], [], _, h, _ => by cases h
  | [], _ :: _, [], _, h => by cases h
  | [], _ :: _, _ :: _, _, _ => rfl
  | _ :: _, [], _, h, _ => by cases h
  | _ :: _, _ :: _, [], _, h => by cases h
  | x :: xs, y :: ys, z :: zs, h, h' => by
    rw [HT.lexLt_cons] at h h' ⊢
    split at h
    · rename_i e
      subst e
      split at h'
      · rename_i e
        subst e
        rw [if_pos rfl]
        exact lex_trans h h'
      · rename_i e
        rw [if_neg e]
        exact h'
    · rename_i e
      split at h'
      · rename_i e'
        subst e'
        rw [if_neg e]
        exact h
      · rename_i e'
        have h1 := of_decide_eq_true h
        have h2 := of_decide_eq_true h'
        rw [if_neg (by omega), decide_eq_true (by omega)]
theorem lex_irr : ∀ a : List Int, HT.lexLt a a = false
  | [] => rfl
  | x :: xs => by rw [HT.lexLt_cons, if_pos rfl]; exact lex_irr xs
theorem lex_tot : ∀ a b : List Int, HT.lexLt a b = false → a = b ∨ HT.lexLt b a = true
  | [], [], _ => .inl rfl
  | [], _ :: _, h => by cases h
  | _ :: _, [], _ => .inr rfl
  | x :: xs, y :: ys, h => by
    rw [HT.lexLt_cons] at h
    rw [HT.lexLt_cons]
    split at h
    · rename_i e
      subst e
      rw [if_pos rfl]
      rcases lex_tot xs ys h with z | z
      · rw [z]; exact .inl rfl
      · exact .inr z
    · rename_i e
      have h1 := of_decide_eq_false h
      rw [if_neg (Ne.symm e)]
      exact .inr (decide_eq_true (by omega))
theorem insU_up {t : List Int} : ∀ {l : List (List Int)}, l.Pairwise (fun a b => HT.lexLt a b = true) → (insU t l).Pairwise (fun a b => HT.lexLt a b = true)
  | [], _ => by simp [insU]
  | u :: r, h => by
    obtain ⟨h1, h2⟩ := List.pairwise_cons.mp h
    unfold insU
    split
    · rename_i z
      refine List.pairwise_cons.mpr ⟨fun x hx => ?_, h⟩
      rcases List.mem_cons.mp hx with e | e
      · rw [e]; exact z
      · exact lex_trans z (h1 x e)
    · split
      · exact h
      · rename_i z1 z2
        refine List.pairwise_cons.mpr ⟨fun x hx => ?_, insU_up h2⟩
        rcases mem_insU.mp hx with e | e
        · subst e
          rcases lex_tot x u (by simpa using z1) with e' | e'
          · exact absurd e' z2
          · exact e'
        · exact h1 x e
theorem sortU_up : ∀ l : List (List Int), (sortU l).Pairwise (fun a b => HT.lexLt a b = true)
  | [] => List.Pairwise.nil
  | t :: r => insU_up (sortU_up r)
/-- rising lists with the same items are the same -/
theorem up_unique : ∀ {l m : List (List Int)}, l.Pairwise (fun a b => HT.lexLt a b = true) → m.Pairwise (fun a b => HT.lexLt a b = true) → (∀ x, x ∈ l ↔ x ∈ m) → l = m
  | [], [], _, _, _ => rfl
  | [], y :: m, _, _, h => absurd ((h y).mpr List.mem_cons_self) (by simp)
  | x :: l, [], _, _, h => absurd ((h x).mp List.mem_cons_self) (by simp)
  | x :: l, y :: m, hl, hm, h => by
    obtain ⟨l1, l2⟩ := List.pairwise_cons.mp hl
    obtain ⟨m1, m2⟩ := List.pairwise_cons.mp hm
    have e : x = y := by
      rcases List.mem_cons.mp ((h x).mp List.mem_cons_self) with z | z
      · exact z
      · rcases List.mem_cons.mp ((h y).mpr List.mem_cons_self) with z' | z'
        · exact z'.symm
        · have := lex_trans (m1 x z) (l1 y z')
          rw [lex_irr] at this
          cases this
    subst e
    rw [up_unique l2 m2 fun z => ?_]
    constructor
    · intro hz
      rcases List.mem_cons.mp ((h z).mp (List.mem_cons_of_mem _ hz)) with e | e
      · subst e
        have := l1 z hz
        rw [lex_irr] at this
        cases this
      · exact e
    · intro hz
      rcases List.mem_cons.mp ((h z).mpr (List.mem_cons_of_mem _ hz)) with e | e
      · subst e
        have := m1 z hz
        rw [lex_irr] at this
        cases this
      · exact e
theorem code_lex {B : Int} : ∀ {ns ms : List Int}, ns.length = ms.length → TS.Bd B ns → TS.Bd B ms → TS.code B ns ≤ TS.code B ms → ns ≠ ms → HT.lexLt ns ms = true
  | [], [], _, _, _, _, h => absurd rfl h
  | [], _ :: _, e, _, _, _, _ => by cases e
  | _ :: _, [], e, _, _, _, _ => by cases e
  | n :: ns, m :: ms, e, b1, b2, h, ne => by
    have e' : ns.length = ms.length := by simpa using e
    rw [HT.lexLt_cons]
    by_cases z : n = m
    · subst z
      rw [if_pos rfl]
      refine code_lex e' b1.tail b2.tail ?_ fun q => ne (by rw [q])
      by_cases q : TS.code B ms < TS.code B ns
      · have := (TS.code_same (B := B) (d := n) e'.symm).mpr q
        omega
      · omega
    · rw [if_neg z]
      by_cases q : m < n
      · have := TS.code_lt e'.symm b2.tail b1.tail q
        omega
      · exact decide_eq_true (by omega)
section
variable {X : Cx} {Wx : WX} {a b c e tg iter elt : Expr} {es ifs : List Expr} {pos p p2 apos cpos spos : Pos} {ma mb mc me : M D} {mt mu : M Bool} {mr ml mi : M (List D)} {mq mp : M Sq} {mm : M (D × Env')} {st : Stmt} {sts body : List Stmt} {m m' : MS}
def tsOk (ts : List (List Int)) : Bool := decide (ts.length < 64) && ts.all fun t => !t.isEmpty && (t.length == (ts.headD []).length && t.all fun x => decide (0 ≤ x ∧ x < 1000))
theorem tsOk_ok {ts : List (List Int)} (h : tsOk ts = true) : ts.length < 64 ∧ (∃ d, 1 ≤ d ∧ ∀ t ∈ ts, t.length = d) ∧ (∀ t ∈ ts, ∀ x ∈ t, 0 ≤ x ∧ x < 1000) := by
  unfold tsOk at h
  rw [Bool.and_eq_true] at h
  obtain ⟨h1, h2⟩ := h
  have h3 : ∀ t ∈ ts, (!t.isEmpty) = true ∧ t.length = (ts.headD []).length ∧ ∀ x ∈ t, 0 ≤ x ∧ x < 1000 := fun t ht => by
    have := List.all_eq_true.mp h2 t ht
    rw [Bool.and_eq_true, Bool.and_eq_true] at this
    exact ⟨this.1, by simpa using this.2.1, fun x hx => of_decide_eq_true (List.all_eq_true.mp this.2.2 x hx)⟩
  refine ⟨of_decide_eq_true h1, ?_, fun t ht => (h3 t ht).2.2⟩
  cases ts with
  | nil => exact ⟨1, Nat.le_refl _, fun t ht => by cases ht⟩
  | cons t0 ts =>
    refine ⟨t0.length, ?_, fun t ht => (h3 t ht).2.1⟩
    have := (h3 t0 List.mem_cons_self).1
    cases t0 with
    | nil => cases this
    | cons x r => simp
def qSortSet (q : Sq) : Option D := if q.1 = false then (match tupsOf q.2 with
  | some ts => if tsOk ts = true then some (.lst ((sortU ts).map tupI)) else none
  | none => none) else none
theorem tups_ok {w : Wd} {B : Bz} {H : Hp} : ∀ {ds : List D} {vs : List V} {ts : List (List Int)}, RL w B H ds vs → tupsOf ds = some ts → ∃ ks : List (Addr × List Int), vs = ks.map (fun p => V.ref p.1) ∧ ks.map (·.2) = ts ∧ ∀ p ∈ ks, ¬ B p.1 ∧ H p.1 = some (.tup (p.2.map V.int))
  | [], vs, ts, r, e => by
    rw [RL] at r
    cases e
    exact ⟨[], r, rfl, fun p hp => by cases hp⟩
  | d :: ds, vs, ts, r, e => by
    rw [RL] at r
    obtain ⟨v, t, rfl, r1, r2⟩ := r
    cases d with
    | tup xs =>
      have e' : (match intsOf xs, tupsOf ds with | some ns, some ts => some (ns :: ts) | _, _ => none) = some ts := e
      cases e1 : intsOf xs with
      | none => rw [e1] at e'; cases e'
      | some ns =>
        cases e2 : tupsOf ds with
        | none => rw [e1, e2] at e'; cases e'
        | some ts' =>
          rw [e1, e2] at e'
          cases e'
          obtain ⟨ks, f1, f2, f3⟩ := tups_ok r2 e2
          rw [R] at r1
          obtain ⟨a, us, rfl, nb, h, rl⟩ := r1
          have := ints_ok rl e1
          subst this
          refine ⟨(a, ns) :: ks, by rw [f1]; rfl, by rw [← f2]; rfl, fun p hp => ?_⟩
          rcases List.mem_cons.mp hp with z | z
          · subst z; exact ⟨nb, h⟩
          · exact f3 p z
    | _ => cases e
theorem RL.tups {w : Wd} {B : Bz} {H : Hp} : ∀ {L : List (Addr × List Int)}, (∀ p ∈ L, ¬ B p.1 ∧ H p.1 = some (.tup (p.2.map V.int))) → RL w B H ((L.map (·.2)).map tupI) (L.map fun q => V.ref q.1)
  | [], _ => by rw [List.map_nil, List.map_nil, List.map_nil, RL]
  | p :: L, h => by
    rw [List.map_cons, List.map_cons, List.map_cons, RL]
    refine ⟨_, _, rfl, ?_, RL.tups fun q hq => h q (List.mem_cons_of_mem _ hq)⟩
    rw [R]
    exact ⟨p.1, _, rfl, (h p List.mem_cons_self).1, (h p List.mem_cons_self).2, RL.ints _⟩
theorem e_sortSet {k : Nat} (hm : X.mg "sorted" = none) (hm2 : X.mg "set" = none) (hr : Room k X.A) (ha : PE X a (tQ X.K Wx mq)) (hg : Gl X "sorted" := by rfl) (hg2 : Gl X "set" := by rfl) (hc : X.calm = true := by rfl) (he : starEach (a :: []) X.env = (false, eval a X.env) :: starEach [] X.env := by rfl) (hpl : (backTo pos (starEach [] X.env)).any (·.1) = false := by rfl)
    (he2 : starEach ((Expr.Call (.Name "set" p2) [a] [] cpos) :: []) X.env = (false, eval (Expr.Call (.Name "set" p2) [a] [] cpos) X.env) :: starEach [] X.env := by rfl) (hpl2 : (backTo cpos (starEach [] X.env)).any (·.1) = false := by rfl) :
    PE X (.Call (.Name "sorted" p) [.Call (.Name "set" p2) [a] [] cpos] [] pos) (tE X.K Wx (mQ qSortSet mq)) :=
  peI (pe_callB (cr_sortedT hc) hg hm bb_sorted (pa_cons (pe_callTy (cr_setOfT hc hr.units) hg2 hm2 bt_set (pa_cons ha pa_nil he) (by decide) (by decide) he hpl2) pa_nil he2) (by decide) (by decide) he2 hpl) fun σ H Q ⟨fr, w, P, env, h, F, q⟩ => one' F q fun qq w2 h2 x H2 F2 r2 _ q2 => by
    obtain ⟨p, vs, rfl, _, hs, rl⟩ := r2
    obtain ⟨bb, ds⟩ := qq
    unfold qSortSet at q2
    split at q2
    · rename_i zb
      dsimp only at zb q2 rl
      subst zb
      cases e : tupsOf ds with
      | none => rw [e] at q2; exact q2.elim
      | some ts =>
        rw [e] at q2
        dsimp only at q2
        split at q2
        · rename_i z
          obtain ⟨z1, ⟨d, d1, z2⟩, z3⟩ := tsOk_ok z
          obtain ⟨ks, f1, f2, f3⟩ := tups_ok rl e
          subst f1
          rcases hs with ⟨_, hs⟩ | ⟨zz, _⟩
          · refine ⟨p, ks, rfl, .inl hs, fun p hp => .of (f3 p hp).2, by rw [← List.length_map (f := (·.2)), f2]; exact z1, fun sa L na L1 Lb => ?_⟩
            have g1 : Grow w2 H2 w2 (upd H2 sa (SetTO X.prog X.w sa L)) := Grow.laid na
            have F3 := F2.grow g1 (F2.laid na)
            have memT : ∀ p ∈ L, p.2 ∈ ts := fun p hp => by rw [← f2]; exact List.mem_map.mpr ⟨p, L1 p hp, rfl⟩
            refine ⟨sa, L, d, 1000, rfl, upd_same, fun p hp => .of (by rw [upd_ne (ne_of_none (f3 p (L1 p hp)).2 na)]; exact (f3 p (L1 p hp)).2), d1, fun p hp => ⟨z2 _ (memT p hp), fun x hx => z3 _ (memT p hp) x hx⟩, fun L' l hperm hnd h64 hpw hl => ?_⟩
            have eL : L'.map (·.2) = sortU ts := by
              refine up_unique ?_ (sortU_up ts) fun x => ?_
              · rw [List.pairwise_map]
                have hne : L'.Pairwise (fun q r => q.2 ≠ r.2) := List.pairwise_map.mp hnd
                refine (hpw.and hne).imp_of_mem fun {q r} hq hr' z => ?_
                have mq := memT q (hperm.mem_iff.mp hq)
                have mr := memT r (hperm.mem_iff.mp hr')
                exact code_lex (by rw [z2 _ mq, z2 _ mr]) (z3 _ mq) (z3 _ mr) z.1 z.2
              · rw [mem_sortU]
                constructor
                · intro hx
                  obtain ⟨q, hq, rfl⟩ := List.mem_map.mp hx
                  exact memT q (hperm.mem_iff.mp hq)
                · intro hx
                  rw [← f2] at hx
                  obtain ⟨q, hq, rfl⟩ := List.mem_map.mp hx
                  obtain ⟨q', hq', e'⟩ := List.mem_map.mp (Lb q hq)
                  exact List.mem_map.mpr ⟨q', hperm.mem_iff.mpr hq', e'⟩
            have t2 := tX.grow g1 q2
            rw [← eL] at t2
            refine lst_fin F3 t2 hl (RL.tups fun q hq => ?_)
            have hq' := L1 q (hperm.mem_iff.mp hq)
            refine ⟨?_, by rw [upd_ne (ne_of_none (f3 q hq').2 na)]; exact (f3 q hq').2⟩
            exact (f3 q hq').1
          · cases zz
        · exact q2.elim
    · exact q2.elim
end
end Fx

namespace Fx
open PySem
open L2
/-! ### enumerate -/
def enumD (ds : List D) : List D := ds.zipIdx.map fun p => .tup [.int (p.2 : Nat), p.1]
theorem enumD_at {ds : List D} {i : Nat} {d : D} (e : (enumD ds)[i]? = some d) : ∃ x, ds[i]? = some x ∧ d = .tup [.int (i : Nat), x] := by
  unfold enumD at e
  rw [List.getElem?_map, List.getElem?_zipIdx] at e
  cases q : ds[i]? with
  | none => rw [q] at e; cases e
  | some x =>
    rw [q] at e
    cases e
    exact ⟨x, rfl, by rw [Nat.zero_add]⟩
theorem enumD_len (ds : List D) : (enumD ds).length = ds.length := by unfold enumD; rw [List.length_map, List.length_zipIdx]
theorem R.pair {w : Wd} {B : Bz} {H : Hp} {T : Addr} {x y : D} {u v : V} (al : ∀ a, B a → H a ≠ none) (n : H T = none) (r1 : R w B H x u) (r2 : R w B H y v) : R w B (upd H T (.tup [u, v])) (.tup [x, y]) (.ref T) := by
  rw [R]
  have k : Keep B H B (upd H T (.tup [u, v])) := fun a o q b => ⟨by rw [upd_ne (ne_of_none q n)]; exact q, b⟩
  refine ⟨T, _, rfl, fun z => al T z n, upd_same, ?_⟩
  rw [RL]
  refine ⟨_, _, rfl, R.keep .refl k _ _ r1, ?_⟩
  rw [RL]
  refine ⟨_, _, rfl, R.keep .refl k _ _ r2, ?_⟩
  rw [RL]
theorem upd_more {H : Hp} {T : Addr} {o : HO} (n : H T = none) : (∀ a q, H a = some q → upd H T o a = some q) ∧ ∀ a, upd H T o a = none → H a = none := by
  refine ⟨fun a q e => by rw [upd_ne (ne_of_none e n)]; exact e, fun a e => ?_⟩
  by_cases z : a = T
  · rw [z]; exact n
  · rw [upd_ne z] at e; exact e
theorem walks_enum {K : PySem.W.Frag} {w : Wd} {B : Bz} {H : Hp} {a : Addr} {vs : List V} {ds : List D} (nb : ¬ B a ∨ True) (h : ∀ B2 H2, Keep B H B2 H2 → Rd H2 a (.lst vs)) (rl : RL w B H ds vs) : Walks (Ite K a) (enumD ds) w B H := fun w2 B2 H2 p k al i => by
  have h2 : Rd H2 a (.lst vs) := h B2 H2 k
  refine ⟨fun z => ⟨vs, .inl h2, by rw [rl.len]; rw [enumD_len] at z; exact z⟩, fun d e => ?_⟩
  obtain ⟨y, e0, rfl⟩ := enumD_at e
  obtain ⟨v, e1, r⟩ := at_ok i rl e0
  refine ⟨⟨vs, v, .inl h2, e1⟩, fun x H3 y => ?_⟩
  obtain ⟨T, x', rfl, n, rfl, f⟩ := y
  have := (f vs (.inl h2)).symm.trans e1
  cases this
  exact ⟨(upd_more n).1, (upd_more n).2, R.pair al n (by rw [R]) (R.keep p k _ _ r)⟩
section
variable {prog : Program} {w : World} {A : Around} {E : Value → Shared → Prop} {s : Shared}
theorem meets_enumT {v : Value} {o : Obj} {H : Heap → Prop} (B : Begins v o H) :
    Meets (Builtin.«enumerate.__new__» ⟨[.type "enumerate", v], []⟩) (fun _ R s => H s.heap ∧
      R (.ok (.ret (.ref (s.heap.push o).objs.size))) { s with heap := (s.heap.push o).push { cls := .type "enumerate", data := .fields #[.none, .bool false, .ref s.heap.objs.size, rawInt 0, .none, .none] } }) :=
  .of_wp fun prog w A R s h => by
    obtain ⟨hp, g, d, tk, os⟩ := s; obtain ⟨h1, h⟩ := h
    have hsub := sub_enumerate
    have q1 : ∀ {A' : Around} {E : Value → Shared → Prop} {Q : Value → Shared → Prop}, Q (.ref hp.objs.size) ⟨hp.push o, g, d, tk, os⟩ → wpAny (model prog w) A' (pyIter v) Q E ⟨hp, g, d, tk, os⟩ :=
      fun q => B.iter prog w _ _ ⟨hp, g, d, tk, os⟩ _ h1 q
    wp_walk using q1
    refine wpAny_stack_any fun st => wpAny_pure ?_
    split
    · rename_i c _ _ _ _ _
      cases (c == Value.type "enumerate")
      · wp_walk using q1
        exact ⟨_, rfl, h⟩
      · wp_walk using q1
        exact ⟨_, rfl, h⟩
    · wp_walk using q1
      exact ⟨_, rfl, h⟩
theorem call_enumT {t : Addr} {its : Array Value} {Q : Value → Shared → Prop} (ht : s.heap.IsTuple t its)
    (h : ∀ h', IsEnum h' (s.heap.objs.size + 1) s.heap.objs.size 0 .none → h'.IsTupleIter s.heap.objs.size t 0 → h'.objs.size = s.heap.objs.size + 2 →
      (∀ b o, s.heap.get? b = some o → h'.get? b = some o) → Q (.ref (s.heap.objs.size + 1)) { s with heap := h' }) :
    wpAny (model prog w) A (call (.type "enumerate") [.ref t]) Q E s := by
  refine callType_new F.called_enumerate (by decide) (F.typeCall_enumerate_1 _) (F.newCall_enumerate_1 _) (fun obj => F.args_object_init_2 obj _) F.entry_enumerate_new
    (meets_enumT (begins_tuple t its)) ⟨ht, ?_⟩
  have hz : (s.heap.push { cls := .type "tuple_iterator", data := .fields #[.ref t, .int 0 0] }).objs.size = s.heap.objs.size + 1 := Heap.size_push ..
  show _ ∧ _
  rw [hz]
  have he : IsEnum ((s.heap.push { cls := .type "tuple_iterator", data := .fields #[.ref t, .int 0 0] }).push
      { cls := .type "enumerate", data := .fields #[.none, .bool false, .ref s.heap.objs.size, rawInt 0, .none, .none] }) (s.heap.objs.size + 1) s.heap.objs.size 0 .none := by
    have := Heap.get?_push_size (s.heap.push { cls := .type "tuple_iterator", data := .fields #[.ref t, .int 0 0] })
      (o := { cls := .type "enumerate", data := .fields #[.none, .bool false, .ref s.heap.objs.size, rawInt 0, .none, .none] }) rfl
    rw [hz] at this; exact this
  refine ⟨⟨_, he, rfl⟩, h _ he ⟨_, Heap.get?_push_of_some _ (Heap.get?_push_size _ rfl), rfl, rfl⟩ (by rw [Heap.size_push, hz]) fun b o x => Heap.get?_push_of_some _ (Heap.get?_push_of_some _ x)⟩
end
theorem draws_end {prog : Program} {w : World} {A : Around} (hh : A.handled = none) (it t : Addr) (items : Array Value) (i : Nat) (hi : items[i]? = none) :
    Draws prog w A it [it, t] i (fun _ _ => False) (fun j h => j = i ∧ h.IsTupleIter it t i ∧ h.IsTuple t items) where
  live := fun _ _ st => let ⟨o, ho, _⟩ := st.2.1; ⟨o, ho⟩
  frame := fun _ _ _ st hk => ⟨st.1, st.2.1.at fun o e => hk it (by simp) o e, st.2.2.at fun o e => hk t (by simp) o e⟩
  item := fun j s Q E hj st hQ => absurd st.1 (Nat.ne_of_lt hj)
  done := fun s Q E st hE => wpAny_nextOf_tuple_end hh st.2.1 st.2.2 hi hE
/-- the tuple at a, each item in a new pair -/
def IteT (K : PySem.W.Frag) (a : Addr) : It :=
  ⟨fun i H => ∃ (xs : List V) (x : V), SqT K H a xs ∧ xs[i]? = some x, fun i H v H' => ∃ T x, v = .ref T ∧ H T = none ∧ H' = upd H T (.tup [.int (i : Nat), x]) ∧ ∀ xs, SqT K H a xs → xs[i]? = some x, fun i H => ∃ xs : List V, SqT K H a xs ∧ xs.length ≤ i⟩
theorem turn_enumT {P : Program} {w : World} {K : PySem.W.Frag} {elts : List Expr} {kk : Nat} {tpos : Pos} (a e it : Addr) (ha : a ≠ e) (ha2 : a ≠ it) :
    Turn P w K (.Tuple elts kk tpos) (IteT K a) [e, it] e (fun i h => (∃ old, IsEnum h e it ((i : Nat) : Int) old) ∧ h.IsTupleIter it a i ∧ e ≠ it) where
  mem := by simp
  obj := fun i h st b hb => by
    obtain ⟨⟨old, he⟩, ⟨o, ho, hc, hd⟩, _⟩ := st
    have e' : b = e ∨ b = it := by simpa using hb
    rcases e' with z | z
    · rw [z]; exact ⟨_, he, fun v q => nomatch q⟩
    · rw [z]; exact ⟨o, ho, fun v q => by rw [hd] at q; cases q⟩
  keep := fun i h h' st k => let ⟨⟨old, he⟩, hi, hne⟩ := st; ⟨⟨old, k e (by simp) _ he⟩, hi.at fun o q => k it (by simp) o q, hne⟩
  item := by
    intro X hP hw hK hc i pins s σ H E I hf st hg
    subst hP hw hK
    obtain ⟨⟨old, he⟩, hit, hne⟩ := st
    obtain ⟨xs, x, hq, hx⟩ := hg
    obtain ⟨its, rv, p, hz⟩ := I.tuple hq
    obtain ⟨u, hu, ru⟩ := rv.get hx
    have hel : e < s.heap.objs.size := Heap.lt_size he
    have hil : it < s.heap.objs.size := by obtain ⟨_, q, _⟩ := hit; exact Heap.lt_size q
    have hi : i < its.toArray.size := by
      obtain ⟨hl, _⟩ := List.getElem?_eq_some_iff.mp hu
      simpa using hl
    have hh : X.A.in1.handled = none := I.ok.hd hc
    refine wpAny_pyNext_enum_itemD (Draws.tuple hh it a ha2 its.toArray) he ⟨hit, p⟩ hi hne (by simp [ne_comm, ha.symm, hne]) fun x' h' tk hP ho st' hT hsz hk => ?_
    have ex : x' = u := by
      have : its.toArray[i]? = some x' := hP
      simp at this
      rw [hu] at this
      exact (Option.some.inj this).symm
    subst ex
    refine ⟨_, rfl, wpAny_letOwnedTupleGo_enum (s := { s with heap := h', toks := tk + 1 }) ho fun h'' he' sb => ?_⟩
    have hT2 : h''.get? s.heap.objs.size = some { cls := .type "tuple", data := .seq #[.int i tk, x'] } := (sb.2 _ (Nat.ne_of_gt hel)).trans hT
    have new : ObjOk X.prog X.w (upd H s.heap.objs.size (.tup [.int (i : Nat), x])) h'' s.heap.objs.size (.tup [.int (i : Nat), x]) :=
      ⟨by show 2 ≤ sizeLine; decide, [.int i tk, x'], .cons ⟨_, rfl⟩ (.cons ru .nil), ⟨_, hT2, rfl, _, rfl⟩⟩
    have I1 : Inv X pins σ (upd H s.heap.objs.size (.tup [.int (i : Nat), x])) { s with heap := h'', toks := tk + 1 } :=
      I.turnedNew (ch := [e, it]) (fun b ob hb q => (sb.2 b (fun z => hb (by simp [z]))).trans (hk b ob (fun z => hb (by simp [z])) (fun z => hb (by simp [z])) q)) hf (Nat.le_refl _) new
    refine ⟨.ref s.heap.objs.size, _, I1, rfl, ⟨_, x, rfl, I.hok.fresh (Nat.le_refl _), rfl, fun ys hy => by rw [I.tuple_inj hy hq]; exact hx⟩, ⟨⟨x', ?_⟩, st'.1.at fun o q => (sb.2 it (Ne.symm hne)).trans q, hne⟩, fun b hb => ?_⟩
    · have e1 : ((i + 1 : Nat) : Int) = (i : Int) + 1 := by omega
      rw [e1]; exact he'
    · have hb' : b < s.heap.objs.size := by
        have e' : b = e ∨ b = it := by simpa using hb
        rcases e' with z | z
        · rw [z]; exact hel
        · rw [z]; exact hil
      rw [upd_ne (Nat.ne_of_lt hb')]
      exact (hf b hb).1
  done := by
    intro X hP hw hK hc i pins s σ H E I hf st hg
    subst hP hw hK
    obtain ⟨⟨old, he⟩, hit, hne⟩ := st
    obtain ⟨xs, hq, hx⟩ := hg
    obtain ⟨its, rv, p, hz⟩ := I.tuple hq
    obtain ⟨f0, f1, f2, f3, f4, f5⟩ := hf it (by simp)
    have hl := rv.length
    have hh : X.A.in1.handled = none := I.ok.hd hc
    exact wpAny_pyNext_enum_endD (draws_end hh it a its.toArray i (by simp; omega)) he ⟨rfl, hit, p⟩ fun h' eb => ⟨rfl, I.turned (t' := s.toks) (fun b o hb q => eb b o hb q) f0 f1 f3 f4 f5⟩
  self := fun A i s Q E st h => let ⟨⟨_, he⟩, _⟩ := st; wpAny_pyIter_enum he h
section
variable {X : Cx} {Wx : WX} {a b c e tg iter elt : Expr} {es ifs : List Expr} {pos p p2 apos cpos spos tpos : Pos} {elts : List Expr} {kk : Nat} {ma mb mc me : M D} {mt mu : M Bool} {mr ml mi : M (List D)} {mq mp : M Sq} {mm : M (D × Env')} {st : Stmt} {sts body : List Stmt} {m m' : MS}
def iEnumT (K : PySem.W.Frag) (ta : TA) : TI := fun σ H R => ta σ H fun vs H1 => ∃ a xs, vs = [.ref a] ∧ SqT K H1 a xs ∧ R (IteT K a) H1
theorem pi_enumT {ta : TA} (hg : Gl X "enumerate") (hm : X.mg "enumerate" = none) (ha : PA X [e] ta) (hs : starEach [e] X.env = [(false, eval e X.env)] := by rfl) :
    PI X (.Tuple elts kk tpos) (.Call (.Name "enumerate" p) [e] [] pos) (iEnumT X.K ta) := by
  refine ⟨fun pins s σ H R I h => ?_⟩
  refine PyProof.Rows.Call_ (ld_blt I hg hm PyProof.Rows.boot_enumerate (PyProof.Rows.callWith_type1 (thn (ha.run pos pins s σ H _ I h) fun us s1 ⟨vs, H1, I1, r1, q1⟩ => ?_) hs rfl))
  obtain ⟨a, xs, ex, hq, q⟩ := q1
  subst ex
  cases r1 with
  | cons r rr =>
    cases rr
    cases r
    obtain ⟨its, rv, p', hz⟩ := I1.tuple hq
    have hlt : a < s1.heap.objs.size := by obtain ⟨o, ho, _⟩ := id p'; exact Heap.lt_size ho
    refine call_enumT (its := its.toArray) p' fun h' he hit hsz hk => wpAny_pyIter_enum he ?_
    have I2 : Inv X pins σ H1 { s1 with heap := h' } := I1.kept (t' := s1.toks) hk
    refine ⟨s1.heap.objs.size + 1, [s1.heap.objs.size + 1, s1.heap.objs.size], _, _, H1, rfl, I2, turn_enumT a (s1.heap.objs.size + 1) s1.heap.objs.size (Nat.ne_of_lt (Nat.lt_succ_of_lt hlt)) (Nat.ne_of_lt hlt), ⟨⟨.none, he⟩, hit, Nat.succ_ne_self _⟩, fun b hb => ?_, q⟩
    have e' : b = s1.heap.objs.size + 1 ∨ b = s1.heap.objs.size := by simpa using hb
    have hle : s1.heap.objs.size ≤ b := by
      rcases e' with z | z
      · rw [z]; exact Nat.le_add_right _ _
      · rw [z]; exact Nat.le_refl _
    exact I1.fpOk hle (I1.hok.fresh hle)
theorem walks_enumT {K : PySem.W.Frag} {w : Wd} {B : Bz} {H : Hp} {a : Addr} {vs : List V} {ds : List D} (nb : ¬ B a) (h : H a = some (.tup vs)) (rl : RL w B H ds vs) : Walks (IteT K a) (enumD ds) w B H := fun w2 B2 H2 p k al i => by
  have h2 : SqT K H2 a vs := .of (k _ _ h nb).1
  refine ⟨fun z => ⟨vs, h2, by rw [rl.len]; rw [enumD_len] at z; exact z⟩, fun d e => ?_⟩
  obtain ⟨y, e0, rfl⟩ := enumD_at e
  obtain ⟨v, e1, r⟩ := at_ok i rl e0
  refine ⟨⟨vs, v, h2, e1⟩, fun x H3 y => ?_⟩
  obtain ⟨T, x', rfl, n, rfl, f⟩ := y
  have := (f vs h2).symm.trans e1
  cases this
  exact ⟨(upd_more n).1, (upd_more n).2, R.pair al n (by rw [R]) (R.keep p k _ _ r)⟩
theorem walks_enumL {K : PySem.W.Frag} {w : Wd} {B : Bz} {H : Hp} {a : Addr} {vs : List V} {ds : List D} (nb : ¬ B a) (h : Rd H a (.lst vs)) (rl : RL w B H ds vs) : Walks (Ite K a) (enumD ds) w B H := walks_enum (.inr trivial) (fun B2 H2 k => by
  rcases h with h | ⟨o, h⟩
  · exact .inl (k _ _ h nb).1
  · exact .inr ⟨o, (k _ _ h nb).1⟩) rl
def mEnumG (g : D → Option (List D)) (m : M D) : M (List D) := fun env h => bnd (m env h) fun d h => lift ((g d).map enumD) h
def mEnum (m : M D) : M (List D) := mEnumG seqItems m
theorem i_enumL (hm : X.mg "enumerate" = none) (ha : PE X e (tE X.K Wx ma)) (hg : Gl X "enumerate" := by rfl) (hs : starEach [e] X.env = [(false, eval e X.env)] := by rfl) :
    PI X (.Tuple elts kk tpos) (.Call (.Name "enumerate" p) [e] [] pos) (tI X.K Wx (mEnumG lstItems ma)) :=
  piI (pi_enum hg hm (pa_cons ha pa_nil hs) hs) fun σ H Q ⟨fr, w, P, env, h, F, q⟩ => oneI F q fun d w2 h2 x H2 F2 r2 g q2 => by
    cases d with
    | lst ds =>
      rw [R] at r2
      obtain ⟨p, vs, rfl, nb, e, rl⟩ := r2
      exact ⟨p, vs, rfl, .of e, q2 w2 _ H2 g F2.rh (walks_enumL nb (.inl e) rl)⟩
    | scr ns =>
      rw [R] at r2
      obtain ⟨p, rfl, nb, e⟩ := r2
      exact ⟨p, _, rfl, .inl e, q2 w2 _ H2 g F2.rh (walks_enumL nb e (RL.ints ns))⟩
    | _ => exact q2.elim
theorem i_enumTu (hm : X.mg "enumerate" = none) (ha : PE X e (tE X.K Wx ma)) (hg : Gl X "enumerate" := by rfl) (hs : starEach [e] X.env = [(false, eval e X.env)] := by rfl) :
    PI X (.Tuple elts kk tpos) (.Call (.Name "enumerate" p) [e] [] pos) (tI X.K Wx (mEnumG tupItems ma)) :=
  piI (pi_enumT hg hm (pa_cons ha pa_nil hs) hs) fun σ H Q ⟨fr, w, P, env, h, F, q⟩ => oneI F q fun d w2 h2 x H2 F2 r2 g q2 => by
    cases d with
    | tup ds =>
      rw [R] at r2
      obtain ⟨p, vs, rfl, nb, e, rl⟩ := r2
      exact ⟨p, vs, rfl, .of e, q2 w2 _ H2 g F2.rh (walks_enumT nb e rl)⟩
    | _ => exact q2.elim
theorem i_enum (hm : X.mg "enumerate" = none) (ha : PE X e (tE X.K Wx ma)) (hg : Gl X "enumerate" := by rfl) (hs : starEach [e] X.env = [(false, eval e X.env)] := by rfl) :
    PI X (.Tuple elts kk tpos) (.Call (.Name "enumerate" p) [e] [] pos) (tI X.K Wx (mEnum ma)) :=
  piI (PI.or (i_enumL hm ha hg hs) (i_enumTu hm ha hg hs)) fun σ H Q ⟨fr, w, P, env, h, F, q⟩ => by
    unfold mEnum mEnumG at q
    cases e : ma env h with
    | ok d h' =>
      rw [e] at q
      cases d with
      | tup ds => exact .inr ⟨fr, w, P, env, h, F, by unfold mEnumG; rw [e]; exact q⟩
      | lst ds => exact .inl ⟨fr, w, P, env, h, F, by unfold mEnumG; rw [e]; exact q⟩
      | scr ds => exact .inl ⟨fr, w, P, env, h, F, by unfold mEnumG; rw [e]; exact q⟩
      | _ => exact q.elim
    | exc c h' => rw [e] at q; exact .inl ⟨fr, w, P, env, h, F, by unfold mEnumG; rw [e]; exact q⟩
    | stuck => rw [e] at q; exact q.elim
/-! ### min of three -/
theorem call_min3 (hc : X.calm = true) : CallR X (.builtin "min") (fun xs H Q => ∃ i j k : Int, xs = [.int i, .int j, .int k] ∧ Q (.int (if j < i then (if k < j then k else j) else (if k < i then k else i))) H) := by
  intro pins s σ H xs us Q I r h
  obtain ⟨i, j, k, rfl, q⟩ := h
  cases r with
  | cons r1 rr =>
    cases rr with
    | cons r2 rr =>
      cases rr with
      | cons r3 rr =>
        cases rr
        obtain ⟨t, rfl⟩ := r1
        obtain ⟨u, rfl⟩ := r2
        obtain ⟨x, rfl⟩ := r3
        refine min_three_ints (I.ok.hd hc) fun h' tk hk => ⟨_, H, I.kept (t' := tk) hk, ?_, q⟩
        by_cases z : j < i
        · by_cases z2 : k < j
          · rw [if_pos z, if_pos z2, if_pos z, if_pos z2]; exact ⟨x, rfl⟩
          · rw [if_pos z, if_neg z2, if_pos z, if_neg z2]; exact ⟨u, rfl⟩
        · by_cases z2 : k < i
          · rw [if_neg z, if_pos z2, if_neg z, if_pos z2]; exact ⟨x, rfl⟩
          · rw [if_neg z, if_neg z2, if_neg z, if_neg z2]; exact ⟨t, rfl⟩
def fMin3q : List D → Option D
  | [.int i, .int j, .int k] => some (.int (if j < i then (if k < j then k else j) else (if k < i then k else i)))
  | _ => none
theorem RL.three {w : Wd} {B : Bz} {H : Hp} {d d' d'' : D} {vs : List V} (r : RL w B H [d, d', d''] vs) : ∃ v v' v'', vs = [v, v', v''] ∧ R w B H d v ∧ R w B H d' v' ∧ R w B H d'' v'' := by
  rw [RL] at r
  obtain ⟨v, t, rfl, r1, r2⟩ := r
  obtain ⟨v', v'', rfl, r3, r4⟩ := r2.two
  exact ⟨v, v', v'', rfl, r1, r3, r4⟩
theorem sc_min3 {K : PySem.W.Frag} : SC K (fun xs H Q => ∃ i j k : Int, xs = [.int i, .int j, .int k] ∧ Q (.int (if j < i then (if k < j then k else j) else (if k < i then k else i))) H) fMin3q := by
  intro Wx fr w P env h σ H as xs Q F r q
  unfold fMin3q at q
  split at q
  · rename_i i j k
    obtain ⟨v, v', v'', rfl, r1, r2, r3⟩ := r.three
    rw [R] at r1
    rw [R] at r2
    rw [R] at r3
    subst r1 r2 r3
    exact ⟨i, j, k, rfl, tX.fin F q (by rw [R])⟩
  · exact q.elim
theorem e_min3 (hm : X.mg "min" = none) (ha : PA X [a, b, c] (tA X.K Wx mr)) (hg : Gl X "min" := by rfl) (hc : X.calm = true := by rfl) (he : starEach (a :: [b, c]) X.env = (false, eval a X.env) :: starEach [b, c] X.env := by rfl) (hpl : (backTo pos (starEach [b, c] X.env)).any (·.1) = false := by rfl) :
    PE X (.Call (.Name "min" p) [a, b, c] [] pos) (tE X.K Wx (mFn fMin3q mr)) := e_fn (call_min3 hc) sc_min3 hm bb_min ha hg (by decide) (by decide) he hpl
end
end Fx

namespace Fx
open PySem
open L2
/-! ### what is not gone through -/
section
variable {X : Cx} {Wx : WX} {a : Expr}
def mNevE {α : Type} : M α := fun _ _ => .stuck
theorem e_never : PE X a (tE X.K Wx mNevE) := ⟨fun pins s σ H Q I ⟨_, _, _, _, _, _, q⟩ => q.elim⟩
end
/-! ### lists and tuples alike -/
def seqB (k : Bool) (h : Heap) (a : Addr) (its : Array Value) : Prop := if k = true then h.IsTuple a its else h.IsList a its
def iterB (k : Bool) (h : Heap) (it a : Addr) (i : Nat) : Prop := if k = true then h.IsTupleIter it a i else h.IsListIter it a i
def SqB (k : Bool) (K : PySem.W.Frag) (H : Hp) (a : Addr) (xs : List V) : Prop := if k = true then SqT K H a xs else SqL K H a xs
def itO (k : Bool) (a : Addr) : Obj := if k = true then { cls := .type "tuple_iterator", data := .fields #[.ref a, .int 0 0] } else { cls := .type "list_iterator", data := .fields #[.ref a, .int 0 0] }
theorem begB (k : Bool) (a : Addr) (its : Array Value) : Begins (.ref a) (itO k a) fun h => seqB k h a its := by
  cases k
  · exact begins_list a its
  · exact begins_tuple a its
theorem iterB_of {k : Bool} {h : Heap} {it a : Addr} (e : h.get? it = some (itO k a)) : iterB k h it a 0 := by
  cases k
  · exact ⟨_, e, rfl, rfl⟩
  · exact ⟨_, e, rfl, rfl⟩
theorem iterB_obj {k : Bool} {h : Heap} {it a : Addr} {i : Nat} (x : iterB k h it a i) : ∃ o, h.get? it = some o ∧ ∀ v, o.data ≠ .cell v := by
  cases k
  · obtain ⟨o, e, _, d⟩ := (show h.IsListIter it a i from x)
    exact ⟨o, e, fun v q => by rw [d] at q; cases q⟩
  · obtain ⟨o, e, _, d⟩ := (show h.IsTupleIter it a i from x)
    exact ⟨o, e, fun v q => by rw [d] at q; cases q⟩
theorem iterB_at {k : Bool} {h h' : Heap} {it a : Addr} {i : Nat} (x : iterB k h it a i) (f : ∀ o, h.get? it = some o → h'.get? it = some o) : iterB k h' it a i := by
  cases k
  · exact (show h.IsListIter it a i from x).at f
  · exact (show h.IsTupleIter it a i from x).at f
theorem drawsB {prog : Program} {w : World} {A : Around} (hh : A.handled = none) (k : Bool) (it a : Addr) (hne : a ≠ it) (its : Array Value) :
    Draws prog w A it [it, a] its.size (fun i v => its[i]? = some v) (fun i h => iterB k h it a i ∧ seqB k h a its) := by
  cases k
  · exact Draws.list hh it a hne its
  · exact Draws.tuple hh it a hne its
/-- an iterator at its end, at any index from there on -/
theorem drawsBe {prog : Program} {w : World} {A : Around} (hh : A.handled = none) (k : Bool) (it a : Addr) (its : Array Value) (i : Nat) (hi : its[i]? = none) :
    Draws prog w A it [it, a] i (fun _ _ => False) (fun j h => j = i ∧ iterB k h it a i ∧ seqB k h a its) := by
  cases k
  · exact { live := fun _ _ st => let ⟨o, ho, _⟩ := (show Heap.IsListIter _ it a i from st.2.1); ⟨o, ho⟩
            frame := fun _ _ _ st hk => ⟨st.1, (show Heap.IsListIter _ it a i from st.2.1).at fun o e => hk it (by simp) o e, (show Heap.IsList _ a its from st.2.2).at fun o e => hk a (by simp) o e⟩
            item := fun j s Q E hj st hQ => absurd st.1 (Nat.ne_of_lt hj)
            done := fun s Q E st hE => wpAny_nextOf_list_end hh (show Heap.IsListIter _ it a i from st.2.1) (show Heap.IsList _ a its from st.2.2) hi hE }
  · exact draws_end hh it a its i hi
theorem Inv_seq {X : Cx} {pins : List (Addr × Obj)} {σ : L2.St} {H : Hp} {s : Shared} (I : Inv X pins σ H s) {k : Bool} {a : Addr} {xs : List V} (h : SqB k X.K H a xs) : ∃ its : List Value, Vals xs its ∧ seqB k s.heap a its.toArray ∧ a < s.heap.objs.size := by
  cases k
  · obtain ⟨its, rv, p, _⟩ := I.list (show SqL X.K H a xs from h)
    exact ⟨its, rv, p.isList, p.lt⟩
  · obtain ⟨its, rv, p, _⟩ := I.tuple (show SqT X.K H a xs from h)
    obtain ⟨o, ho, _⟩ := id p
    exact ⟨its, rv, p, Heap.lt_size ho⟩
theorem Inv_seq_inj {X : Cx} {pins : List (Addr × Obj)} {σ : L2.St} {H : Hp} {s : Shared} (I : Inv X pins σ H s) {k : Bool} {a : Addr} {xs ys : List V} (h : SqB k X.K H a xs) (h' : SqB k X.K H a ys) : xs = ys := by
  cases k
  · exact I.list_inj h h'
  · exact I.tuple_inj h h'
/-! ### zip of two, lists or tuples -/
def ItzB (k m : Bool) (K : PySem.W.Frag) (a b : Addr) : It :=
  ⟨fun i H => ∃ (xs ys : List V) (x y : V), SqB k K H a xs ∧ SqB m K H b ys ∧ xs[i]? = some x ∧ ys[i]? = some y,
    fun i H v H' => ∃ T x y, v = .ref T ∧ H T = none ∧ H' = upd H T (.tup [x, y]) ∧ (∀ xs, SqB k K H a xs → xs[i]? = some x) ∧ ∀ ys, SqB m K H b ys → ys[i]? = some y,
    fun i H => ∃ xs ys : List V, SqB k K H a xs ∧ SqB m K H b ys ∧ (xs.length ≤ i ∨ ys.length ≤ i)⟩
theorem turn_zipB {P : Program} {w : World} {K : PySem.W.Frag} {elts : List Expr} {kk : Nat} {tpos : Pos} {k m : Bool} {a b z TI TO i1 i2 : Addr} (S : ZipSep2 z TI TO i1 i2 [i1, a] [i2, b]) (n1 : a ≠ i1) (n2 : b ≠ i2) :
    Turn P w K (.Tuple elts kk tpos) (ItzB k m K a b) [z, TI, TO, i1, i2] z (fun i h => IsZip h z TI TO .none ∧ IsTupOf2 h TI (.ref i1) (.ref i2) ∧ (∃ x y, IsTupOf2 h TO x y) ∧ iterB k h i1 a i ∧ iterB m h i2 b i) where
  mem := by simp
  obj := fun i h st c hc => by
    obtain ⟨hz, hTI, ⟨x, y, hTO⟩, h1, h2⟩ := st
    have e' : c = z ∨ c = TI ∨ c = TO ∨ c = i1 ∨ c = i2 := by simpa using hc
    rcases e' with q | q | q | q | q
    · rw [q]; exact ⟨_, hz, fun v q => nomatch q⟩
    · rw [q]; exact ⟨_, hTI, fun v q => nomatch q⟩
    · rw [q]; exact ⟨_, hTO, fun v q => nomatch q⟩
    · rw [q]; exact iterB_obj h1
    · rw [q]; exact iterB_obj h2
  keep := fun i h h' st k => by
    obtain ⟨hz, hTI, ⟨x, y, hTO⟩, h1, h2⟩ := st
    exact ⟨k z (by simp) _ hz, k TI (by simp) _ hTI, ⟨x, y, k TO (by simp) _ hTO⟩, iterB_at h1 fun o q => k i1 (by simp) o q, iterB_at h2 fun o q => k i2 (by simp) o q⟩
  item := by
    intro X hP hw hK hc i pins s σ H E I hf st hg
    subst hP hw hK
    obtain ⟨hz, hTI, ⟨x0, y0, hTO⟩, h1, h2⟩ := st
    obtain ⟨xs, ys, x, y, hqx, hqy, hx, hy⟩ := hg
    obtain ⟨its, rv, p, _⟩ := Inv_seq I hqx
    obtain ⟨its2, rv2, p2, _⟩ := Inv_seq I hqy
    obtain ⟨u, hu, ru⟩ := rv.get hx
    obtain ⟨u2, hu2, ru2⟩ := rv2.get hy
    have hh : X.A.in1.handled = none := I.ok.hd hc
    have hzl : z < s.heap.objs.size := Heap.lt_size hz
    have l1 : i < its.toArray.size := by have := (List.getElem?_eq_some_iff.mp hu).1; simpa using this
    have l2 : i < its2.toArray.size := by have := (List.getElem?_eq_some_iff.mp hu2).1; simpa using this
    refine wpAny_pyNext_zipD2_item S (drawsB hh k i1 a n1 its.toArray) (drawsB hh m i2 b n2 its2.toArray) hz hTI hTO ⟨h1, p⟩ ⟨h2, p2⟩ l1 l2 fun v1 v2 h' tk e1 e2 z' TO' st1 st2 hT hsz hk => ?_
    have ev1 : v1 = u := by
      have : its.toArray[i]? = some v1 := e1
      simp at this
      rw [hu] at this
      exact (Option.some.inj this).symm
    have ev2 : v2 = u2 := by
      have : its2.toArray[i]? = some v2 := e2
      simp at this
      rw [hu2] at this
      exact (Option.some.inj this).symm
    subst ev1 ev2
    refine ⟨_, rfl, wpAny_letOwnedTupleGo_zip (s := { s with heap := h', toks := tk }) z' fun h'' z'' sb => ?_⟩
    have hT2 : h''.get? s.heap.objs.size = some { cls := .type "tuple", data := .seq #[v1, v2] } := (sb.2 _ (Nat.ne_of_gt hzl)).trans hT
    have new : ObjOk X.prog X.w (upd H s.heap.objs.size (.tup [x, y])) h'' s.heap.objs.size (.tup [x, y]) :=
      ⟨by show 2 ≤ sizeLine; decide, [v1, v2], .cons ru (.cons ru2 .nil), ⟨_, hT2, rfl, _, rfl⟩⟩
    have I1 : Inv X pins σ (upd H s.heap.objs.size (.tup [x, y])) { s with heap := h'', toks := tk } :=
      I.turnedNew (t' := tk) (ch := [z, TI, TO, i1, i2]) (fun c o hb q => (sb.2 c (fun q' => hb (by simp [q']))).trans (hk c o (fun q' => hb (by simp [q'])) (fun q' => hb (by simp [q'])) (fun q' => hb (by simp [q'])) (fun q' => hb (by simp [q'])) q)) hf (Nat.le_refl _) new
    refine ⟨.ref s.heap.objs.size, _, I1, rfl, ⟨_, x, y, rfl, I.hok.fresh (Nat.le_refl _), rfl, fun l hl => by rw [Inv_seq_inj I hl hqx]; exact hx, fun l hl => by rw [Inv_seq_inj I hl hqy]; exact hy⟩, ⟨z'', ?_, ⟨v1, v2, ?_⟩, ?_, ?_⟩, fun c hcm => ?_⟩
    · exact (sb.2 _ S.TIz).trans (hk _ _ S.TIz S.TITO S.TIi1 S.TIi2 hTI)
    · exact (sb.2 _ S.TOz).trans TO'
    · exact iterB_at st1.1 fun o q => (sb.2 _ S.zi1.symm).trans q
    · exact iterB_at st2.1 fun o q => (sb.2 _ S.zi2.symm).trans q
    · have hlt : c < s.heap.objs.size := by
        have e' : c = z ∨ c = TI ∨ c = TO ∨ c = i1 ∨ c = i2 := by simpa using hcm
        rcases e' with q | q | q | q | q
        · rw [q]; exact hzl
        · rw [q]; exact Heap.lt_size hTI
        · rw [q]; exact Heap.lt_size hTO
        · rw [q]; obtain ⟨_, e1, _⟩ := iterB_obj h1; exact Heap.lt_size e1
        · rw [q]; obtain ⟨_, e2, _⟩ := iterB_obj h2; exact Heap.lt_size e2
      rw [upd_ne (Nat.ne_of_lt hlt)]
      exact (hf c hcm).1
  done := by
    intro X hP hw hK hc i pins s σ H E I hf st hg
    subst hP hw hK
    obtain ⟨hz, hTI, ⟨x0, y0, hTO⟩, h1, h2⟩ := st
    obtain ⟨xs, ys, hqx, hqy, hend⟩ := hg
    obtain ⟨its, rv, p, _⟩ := Inv_seq I hqx
    obtain ⟨its2, rv2, p2, _⟩ := Inv_seq I hqy
    have hh : X.A.in1.handled = none := I.ok.hd hc
    have l1 := rv.length
    have l2 := rv2.length
    have fin : ∀ (h' : Heap) (tk : Nat), (∀ c o, c ≠ z → c ≠ TO → c ≠ i1 → c ≠ i2 → s.heap.get? c = some o → h'.get? c = some o) → Inv X pins σ H { s with heap := h', toks := tk } := fun h' tk hk =>
      I.turnedL (t' := tk) (ch := [z, TI, TO, i1, i2]) (fun c o hb q => hk c o (fun q' => hb (by simp [q'])) (fun q' => hb (by simp [q'])) (fun q' => hb (by simp [q'])) (fun q' => hb (by simp [q'])) q) hf
    by_cases g1 : its.toArray.size ≤ i
    · have e1 : its.toArray[i]? = none := by simp at g1 ⊢; omega
      by_cases g2 : its2.toArray.size ≤ i
      · have e2 : its2.toArray[i]? = none := by simp at g2 ⊢; omega
        exact wpAny_pyNext_zipD2_end S (drawsBe hh k i1 a its.toArray i e1) (drawsBe hh m i2 b its2.toArray i e2) hz hTI hTO ⟨rfl, h1, p⟩ ⟨rfl, h2, p2⟩ (Nat.le_refl _) (Nat.le_refl _) (.inl rfl) fun h' tk hk => ⟨rfl, fin h' tk hk⟩
      · exact wpAny_pyNext_zipD2_end S (drawsBe hh k i1 a its.toArray i e1) (drawsB hh m i2 b n2 its2.toArray) hz hTI hTO ⟨rfl, h1, p⟩ ⟨h2, p2⟩ (Nat.le_refl _) (by omega) (.inl rfl) fun h' tk hk => ⟨rfl, fin h' tk hk⟩
    · have g2 : its2.toArray.size ≤ i := by simp at g1 ⊢; omega
      have e2 : its2.toArray[i]? = none := by simp at g2 ⊢; omega
      exact wpAny_pyNext_zipD2_end S (drawsB hh k i1 a n1 its.toArray) (drawsBe hh m i2 b its2.toArray i e2) hz hTI hTO ⟨h1, p⟩ ⟨rfl, h2, p2⟩ (by omega) (Nat.le_refl _) (.inr rfl) fun h' tk hk => ⟨rfl, fin h' tk hk⟩
  self := fun A i s Q E st h => wpAny_pyIter_zip st.1 h
section
variable {X : Cx} {Wx : WX} {a b c e e2 tg iter elt : Expr} {es ifs : List Expr} {pos p p2 apos cpos spos tpos : Pos} {elts : List Expr} {kk : Nat} {ma mb mc me : M D} {mt mu : M Bool} {mr ml mi : M (List D)} {mq mp : M Sq} {mm : M (D × Env')} {st : Stmt} {sts body : List Stmt} {m m' : MS}
def iZipB (K : PySem.W.Frag) (ta : TA) : TI := fun σ H R => ta σ H fun vs H1 => ∃ k m a b xs ys, vs = [.ref a, .ref b] ∧ SqB k K H1 a xs ∧ SqB m K H1 b ys ∧ R (ItzB k m K a b) H1
theorem pi_zipB {ta : TA} (hg : Gl X "zip") (hm : X.mg "zip" = none) (ha : PA X [e, e2] ta)
    (hs : starEach [e, e2] X.env = (false, eval e X.env) :: starEach [e2] X.env := by rfl) (hpl : (backTo pos (starEach [e2] X.env)).any (·.1) = false := by rfl) :
    PI X (.Tuple elts kk tpos) (.Call (.Name "zip" p) [e, e2] [] pos) (iZipB X.K ta) := by
  refine ⟨fun pins s σ H R I h => ?_⟩
  refine PyProof.Rows.Call_ (ld_blt I hg hm PyProof.Rows.boot_zip (PyProof.Rows.callWith_type1 (thn (ha.run pos pins s σ H _ I h) fun us s1 ⟨vs, H1, I1, r1, q1⟩ => ?_) hs hpl))
  obtain ⟨k, m, a, b, xs, ys, ex, hqx, hqy, q⟩ := q1
  subst ex
  cases r1 with
  | cons r rr =>
    cases rr with
    | cons r' rr =>
      cases rr
      cases r
      cases r'
      obtain ⟨its, rv, p1, b1⟩ := Inv_seq I1 hqx
      obtain ⟨its2, rv2, p2, b2⟩ := Inv_seq I1 hqy
      refine zip_begins2 (begB k a its.toArray) (begB m b its2.toArray) p1 p2 fun h' hz hTI hTO g1 g2 hsz hk => wpAny_pyIter_zip hz ?_
      have I2 : Inv X pins σ H1 { s1 with heap := h' } := I1.kept (t' := s1.toks) hk
      have S : ZipSep2 (s1.heap.objs.size + 4) (s1.heap.objs.size + 2) (s1.heap.objs.size + 3) s1.heap.objs.size (s1.heap.objs.size + 1) [s1.heap.objs.size, a] [s1.heap.objs.size + 1, b] :=
        zip_sep2 (fun c hc => by simp at hc; rw [hc]; exact b1) (fun c hc => by simp at hc; rw [hc]; exact b2)
      refine ⟨s1.heap.objs.size + 4, [s1.heap.objs.size + 4, s1.heap.objs.size + 2, s1.heap.objs.size + 3, s1.heap.objs.size, s1.heap.objs.size + 1], _, _, H1, rfl, I2, turn_zipB S (Nat.ne_of_lt b1) (Nat.ne_of_lt (Nat.lt_succ_of_lt b2)), ⟨hz, hTI, ⟨_, _, hTO⟩, iterB_of g1, iterB_of g2⟩, fun c hcm => ?_, q⟩
      have e' : c = s1.heap.objs.size + 4 ∨ c = s1.heap.objs.size + 2 ∨ c = s1.heap.objs.size + 3 ∨ c = s1.heap.objs.size ∨ c = s1.heap.objs.size + 1 := by simpa using hcm
      have hle : s1.heap.objs.size ≤ c := by
        rcases e' with z | z | z | z | z
        · rw [z]; exact Nat.le_add_right _ _
        · rw [z]; exact Nat.le_add_right _ _
        · rw [z]; exact Nat.le_add_right _ _
        · rw [z]; exact Nat.le_refl _
        · rw [z]; exact Nat.le_add_right _ _
      exact I1.fpOk hle (I1.hok.fresh hle)
def zipD (xs ys : List D) : List D := (xs.zip ys).map fun p => .tup [p.1, p.2]
theorem zipD_at {xs ys : List D} {i : Nat} {d : D} (e : (zipD xs ys)[i]? = some d) : ∃ x y, xs[i]? = some x ∧ ys[i]? = some y ∧ d = .tup [x, y] := by
  unfold zipD at e
  rw [List.getElem?_map] at e
  cases q : (xs.zip ys)[i]? with
  | none => rw [q] at e; cases e
  | some p =>
    rw [q] at e
    cases e
    obtain ⟨h1, h2⟩ := List.getElem?_zip_eq_some.mp q
    exact ⟨p.1, p.2, h1, h2, rfl⟩
/-- a value that is a list or a tuple, and stays -/
theorem RQ.stays {w : Wd} {B : Bz} {H : Hp} {d : D} {q : Sq} {v : V} (r : R w B H d v) (e : sqOf d = some q) : ∃ a vs, v = .ref a ∧ RL w B H q.2 vs ∧ ∀ K B2 H2, Keep B H B2 H2 → SqB q.1 K H2 a vs := by
  cases d with
  | tup ds =>
    rw [R] at r
    obtain ⟨a, vs, rfl, nb, h, rl⟩ := r
    cases e
    exact ⟨a, vs, rfl, rl, fun K B2 H2 k => SqT.of (k _ _ h nb).1⟩
  | lst ds =>
    rw [R] at r
    obtain ⟨a, vs, rfl, nb, h, rl⟩ := r
    cases e
    exact ⟨a, vs, rfl, rl, fun K B2 H2 k => Or.inl (.inl (k _ _ h nb).1)⟩
  | scr ns =>
    rw [R] at r
    obtain ⟨a, rfl, nb, h⟩ := r
    cases e
    refine ⟨a, _, rfl, RL.ints ns, fun K B2 H2 k => ?_⟩
    rcases h with h | ⟨o, h⟩
    · exact Or.inl (.inl (k _ _ h nb).1)
    · exact Or.inl (.inr ⟨o, (k _ _ h nb).1⟩)
  | _ => cases e
def mZip (a b : M D) : M (List D) := fun env h => bnd (a env h) fun x h => bnd (b env h) fun y h => match sqOf x, sqOf y with
  | some p, some q => .ok (zipD p.2 q.2) h
  | _, _ => .stuck
theorem zipD_len (xs ys : List D) : (zipD xs ys).length = min xs.length ys.length := by unfold zipD; rw [List.length_map, List.length_zip]
theorem walks_zip {K : PySem.W.Frag} {w : Wd} {B : Bz} {H : Hp} {a b : Addr} {us vs : List V} {xs ys : List D} {k m : Bool} (h1 : ∀ B2 H2, Keep B H B2 H2 → SqB k K H2 a us) (h2 : ∀ B2 H2, Keep B H B2 H2 → SqB m K H2 b vs) (r1 : RL w B H xs us) (r2 : RL w B H ys vs) :
    Walks (ItzB k m K a b) (zipD xs ys) w B H := fun w2 B2 H2 p kp al i => by
  have q1 := h1 B2 H2 kp
  have q2 := h2 B2 H2 kp
  refine ⟨fun z => ⟨us, vs, q1, q2, by rw [r1.len, r2.len]; rw [zipD_len] at z; omega⟩, fun d e => ?_⟩
  obtain ⟨x, y, e1, e2, rfl⟩ := zipD_at e
  obtain ⟨u, f1, g1⟩ := at_ok i r1 e1
  obtain ⟨v, f2, g2⟩ := at_ok i r2 e2
  refine ⟨⟨us, vs, u, v, q1, q2, f1, f2⟩, fun t H3 yl => ?_⟩
  obtain ⟨T, x', y', rfl, n, rfl, f, g⟩ := yl
  have z1 := (f us q1).symm.trans f1
  have z2 := (g vs q2).symm.trans f2
  cases z1
  cases z2
  exact ⟨(upd_more n).1, (upd_more n).2, R.pair al n (R.keep p kp _ _ g1) (R.keep p kp _ _ g2)⟩
theorem i_zip (hm : X.mg "zip" = none) (ha : PE X e (tE X.K Wx ma)) (hb : PE X e2 (tE X.K Wx mb)) (hg : Gl X "zip" := by rfl) (hs : starEach [e, e2] X.env = (false, eval e X.env) :: starEach [e2] X.env := by rfl) (hpl : (backTo pos (starEach [e2] X.env)).any (·.1) = false := by rfl)
    (hs2 : starEach (e2 :: []) X.env = (false, eval e2 X.env) :: starEach [] X.env := by rfl) :
    PI X (.Tuple elts kk tpos) (.Call (.Name "zip" p) [e, e2] [] pos) (tI X.K Wx (mZip ma mb)) :=
  piI (pi_zipB hg hm (pa_cons ha (pa_cons hb pa_nil hs2) hs) hs hpl) fun σ H Q ⟨fr, w, P, env, h, F, q⟩ => by
    unfold mZip at q
    refine oneI F q fun d w1 h1 x H1 F1 r1 g1 q1 => ?_
    have q1' : match bnd (mb env h1) (fun y h => match sqOf d, sqOf y with | some p, some q => Res.ok (zipD p.2 q.2) h | _, _ => .stuck) with
        | .ok ds h' => ∀ w' J H', Grow w1 H1 w' H' → RelH X.K w' (Bu fr.O P w') h' H' → Walks J ds w' (Bu fr.O P w') H' → Q J H'
        | .exc c h' => ∀ w' H', Grow w1 H1 w' H' → RelH X.K w' (Bu fr.O P w') h' H' → Wx (.ref (He.ga X.K c.name)) none σ H'
        | .stuck => False := by
      revert q1
      cases bnd (mb env h1) (fun y h => match sqOf d, sqOf y with | some p, some q => Res.ok (zipD p.2 q.2) h | _, _ => .stuck) with
      | ok ds h' => exact fun q w' J H' g => q w' J H' (g1.trans g)
      | exc c h' => exact fun q w' H' g => q w' H' (g1.trans g)
      | stuck => exact id
    refine oneI F1 q1' fun d2 w2 h2 y H2 F2 r2 g2 q2 => ?_
    have r1' := R.keep g2.rho g2.keepB _ _ r1
    cases e1 : sqOf d with
    | none => rw [e1] at q2; exact q2.elim
    | some p =>
      cases e2 : sqOf d2 with
      | none => rw [e1, e2] at q2; exact q2.elim
      | some q =>
        rw [e1, e2] at q2
        obtain ⟨a, us, rfl, ra, sa⟩ := RQ.stays r1' e1
        obtain ⟨b, vs, rfl, rb, sb⟩ := RQ.stays r2 e2
        exact ⟨p.1, q.1, a, b, us, vs, rfl, sa _ _ _ .refl, sb _ _ _ .refl, q2 w2 _ H2 g2 F2.rh (walks_zip (sa _) (sb _) ra rb)⟩
/-! ### sum of a tuple -/
theorem sum_rawT {prog : Program} {w : World} {A : Around} {E : Value → Shared → Prop} {s : Shared} {l : Addr} {its : List Value} {ns : List Int} {Q : Value → Shared → Prop} (hh : A.handled = none) (hl : s.heap.IsTuple l its.toArray) (hi : PyProof.Rows.IntsAre its ns)
    (h : ∀ h' tk t', (∀ b o, s.heap.get? b = some o → h'.get? b = some o) → Q (.int ns.sum t') { s with heap := h', toks := tk }) : wpAny (model prog w) A (call (.builtin "sum") [.ref l]) Q E s := by
  obtain ⟨xs, e⟩ := hi.allInts.items
  have hn : numsOf (intItems xs).toList = ns := by rw [← e]; exact hi.numsOf
  rw [nums_intItems] at hn
  rw [e] at hl
  have hlt : l < s.heap.objs.size := by obtain ⟨o, ho, _⟩ := id hl; exact Heap.lt_size ho
  refine call_sum_walkG (wpAny_pyIter_tuple hl ?_)
  refine ⟨_, [_, l], [_], _, _, _, numAt xs, rfl, Walks.tuple (A := A.in1) hh _ l (Nat.ne_of_lt hlt) (intItems xs), ⟨⟨_, Heap.get?_push_size _ rfl, rfl, rfl⟩, hl.push _⟩, fun d hd => ?_, fun _ _ => intItems_at, fun h' tk t' hk => ?_⟩
  · show d < (s.heap.push _).objs.size
    rw [Heap.size_push]
    rcases List.mem_cons.mp hd with rfl | hd
    · exact Nat.lt_succ_self _
    · rcases List.mem_cons.mp hd with rfl | hd
      · exact Nat.lt_succ_of_lt hlt
      · cases hd
  · have hold : ∀ d o, s.heap.get? d = some o → h'.get? d = some o := fun d o e => by
      refine hk d o (fun hm => ?_) (Heap.get?_push_of_some _ e)
      rcases List.mem_cons.mp hm with e1 | hm
      · have := Heap.lt_size e; rw [e1] at this; exact Nat.lt_irrefl _ this
      · cases hm
    have := h h' tk t' hold
    rw [show (intItems xs).size = xs.size by simp [intItems], preSum_eq, List.take_of_length_le (by simp), hn]
    exact this
def rSumT (K : PySem.W.Frag) : List V → Hp → VK → Prop := fun xs H Q => ∃ (a : Addr) (ns : List Int), xs = [.ref a] ∧ SqT K H a (ns.map V.int) ∧ Q (.int ns.sum) H
theorem cr_sumT (hc : X.calm = true) : CallR X (.builtin "sum") (rSumT X.K) := by
  intro pins s σ H vs us Q I r h
  obtain ⟨a, ns, rfl, hs, q⟩ := h
  obtain ⟨its, rv, hl, _⟩ := I.tuple hs
  rw [Vals.ref1 r]
  exact sum_rawT (I.ok.hd hc) hl rv.ints fun h' tk t' hk => ⟨.int _, H, I.kept hk, ⟨_, rfl⟩, q⟩
def qSumT (q : Sq) : Option D := if q.1 = true then (intsOf q.2).map fun ns => .int ns.sum else none
theorem sq_sumT {K : PySem.W.Frag} : SQ K (rSumT K) qSumT := by
  intro Wx fr w P env h σ H q x Q F r t
  obtain ⟨p, vs, rfl, _, hs, rl⟩ := r
  obtain ⟨b, ds⟩ := q
  cases b with
  | false => exact t.elim
  | true =>
    rcases hs with ⟨z, _⟩ | ⟨_, hs⟩
    · cases z
    · cases e : intsOf ds with
      | none => unfold qSumT at t; rw [if_pos rfl] at t; dsimp only at t; rw [e] at t; exact t.elim
      | some ns =>
        have ev := ints_ok rl e
        subst ev
        unfold qSumT at t
        rw [if_pos rfl] at t
        dsimp only at t
        rw [e] at t
        exact ⟨p, ns, rfl, .of hs, tX.fin F t (by rw [R])⟩
def qSumB (q : Sq) : Option D := (intsOf q.2).map fun ns => .int ns.sum
theorem PE.or {ta tb : TE} (h : PE X a ta) (h' : PE X a tb) : PE X a (fun σ H Q => ta σ H Q ∨ tb σ H Q) := ⟨fun pins s σ H Q I q => q.elim (h.run pins s σ H Q I) (h'.run pins s σ H Q I)⟩
/-- one sequence, a list or a tuple: two rules in one -/
theorem orQ {g1 g2 g : Sq → Option D} (h1 : PE X a (tE X.K Wx (mQ g1 mq))) (h2 : PE X a (tE X.K Wx (mQ g2 mq))) (e1 : ∀ ds, g (false, ds) = g1 (false, ds)) (e2 : ∀ ds, g (true, ds) = g2 (true, ds)) : PE X a (tE X.K Wx (mQ g mq)) :=
  peI (PE.or h1 h2) fun σ H Q ⟨fr, w, P, env, h, F, q⟩ => by
    unfold mQ at q
    cases e : mq env h with
    | ok x h' =>
      rw [e] at q
      obtain ⟨b, ds⟩ := x
      cases b with
      | false => exact .inl ⟨fr, w, P, env, h, F, by unfold mQ; rw [e]; show tX R X.K Wx fr w P σ H (lift (g1 (false, ds)) h') Q; rw [← e1]; exact q⟩
      | true => exact .inr ⟨fr, w, P, env, h, F, by unfold mQ; rw [e]; show tX R X.K Wx fr w P σ H (lift (g2 (true, ds)) h') Q; rw [← e2]; exact q⟩
    | exc c h' => exact .inl ⟨fr, w, P, env, h, F, by unfold mQ; rw [e] at q ⊢; exact q⟩
    | stuck => rw [e] at q; exact q.elim
theorem e_sumB (hm : X.mg "sum" = none) (ha : PE X a (tQ X.K Wx mq)) (hg : Gl X "sum" := by rfl) (hc : X.calm = true := by rfl) (he : starEach (a :: []) X.env = (false, eval a X.env) :: starEach [] X.env := by rfl) (hpl : (backTo pos (starEach [] X.env)).any (·.1) = false := by rfl) :
    PE X (.Call (.Name "sum" p) [a] [] pos) (tE X.K Wx (mQ qSumB mq)) :=
  orQ (e_sum hm ha hg hc he hpl) (e_fnQ (cr_sumT hc) sq_sumT hm bb_sum ha hg (by decide) (by decide) he hpl) (fun ds => by unfold qSumB qSum; rw [if_pos rfl]) (fun ds => by unfold qSumB qSumT; rw [if_pos rfl])
/-- a while's fuel: a whole number that falls -/
def fuelI (k : Nat) : Env' → AH → Nat := fun env _ => match env[k]? with
  | some (.val (.int i)) => i.toNat + 1
  | _ => 0
end
end Fx

namespace Fx
open PySem
open L2
/-! ### tuple * whole number -/
theorem tuple_mul1 (l : Addr) (items : Array Value) (n : Nat) (dd : Option Addr) (sl : Array (Option Value)) (u : Tok) :
    Meets (Builtin.«tuple.__mul__» ⟨[.ref l, .int 1 u], []⟩) (fun _ R s => s.heap.get? l = some { cls := .type "tuple", dict := dd, data := .seq items n, slots := sl } ∧ R (.ok (.ret (Value.ref l))) s) :=
  .of_wp fun prog w A R s h => by
    obtain ⟨hp, g, d, tk, os⟩ := s
    obtain ⟨hl, h⟩ := h
    have f1 := AutoSeq1.idx_int
    have c1 : (items.isEmpty || (1 : Int) == 1) = true := by rw [show ((1 : Int) == 1) = true from rfl, Bool.or_true]
    wp_walk using AutoSeq1.wpAny_loadPart' hl
    repeat (first
      | (refine wpAny_ite_false (decide_eq_false (by decide)) ?_; wp_walk using AutoSeq1.wpAny_loadPart' hl)
      | (refine wpAny_ite_true (decide_eq_true c1) ?_; wp_walk using AutoSeq1.wpAny_loadPart' hl))
    exact ⟨_, rfl, h⟩
theorem tuple_mul0 (l : Addr) (items : Array Value) (n : Nat) (dd : Option Addr) (sl : Array (Option Value)) (u : Tok) (he : items.isEmpty = false) :
    Meets (Builtin.«tuple.__mul__» ⟨[.ref l, .int 0 u], []⟩) (fun _ R s => s.heap.get? l = some { cls := .type "tuple", dict := dd, data := .seq items n, slots := sl } ∧ R (.ok (.ret (Value.ref s.heap.objs.size))) { s with heap := s.heap.push { cls := Value.type "tuple", data := Data.seq #[] }, toks := s.toks }) :=
  .of_wp fun prog w A R s h => by
    obtain ⟨hp, g, d, tk, os⟩ := s
    obtain ⟨hl, h⟩ := h
    have f1 := AutoSeq1.idx_int
    have c1 : (items.isEmpty || (0 : Int) == 1) = false := by rw [he]; rfl
    have c2 : (decide ((0 : Int) ≤ 0) || items.isEmpty) = true := by rw [show decide ((0 : Int) ≤ 0) = true from rfl, Bool.true_or]
    wp_walk using AutoSeq1.wpAny_loadPart' hl
    repeat (first
      | (refine wpAny_ite_false (decide_eq_false (by decide)) ?_; wp_walk using AutoSeq1.wpAny_loadPart' hl)
      | (refine wpAny_ite_false (decide_eq_false (by rw [c1]; exact Bool.false_ne_true)) ?_; wp_walk using AutoSeq1.wpAny_loadPart' hl)
      | (refine wpAny_ite_true (decide_eq_true c2) ?_; wp_walk using AutoSeq1.wpAny_loadPart' hl))
    exact ⟨_, rfl, h⟩
section
variable {X : Cx} {Wx : WX} {a b c e e2 tg iter elt : Expr} {es ifs : List Expr} {pos p p2 apos cpos spos tpos : Pos} {elts : List Expr} {kk : Nat} {ma mb mc me : M D} {mt mu : M Bool} {mr ml mi : M (List D)} {mq mp : M Sq} {mm : M (D × Env')} {st : Stmt} {sts body : List Stmt} {m m' : MS}
def rRepT1 (K : PySem.W.Frag) : R2 := fun x y H Q => ∃ l xs, x = .ref l ∧ y = .int 1 ∧ SqT K H l xs ∧ Q (.ref l) H
def rRepT0 (K : PySem.W.Frag) : R2 := fun x y H Q => ∃ l xs, x = .ref l ∧ y = .int 0 ∧ SqT K H l xs ∧ xs ≠ [] ∧ ∀ p, H p = none → Q (.ref p) (upd H p (.tup []))
theorem op_repT1 : OpR X (binaryOp .Mult) (rRepT1 X.K) := by
  intro pins s σ H x y v u Q I rx ry h
  obtain ⟨l, xs, rfl, rfl, hT, q⟩ := h
  cases rx
  obtain ⟨t, rfl⟩ := ry
  obtain ⟨its, r, ⟨⟨cls, dd, data, sl⟩, ho, hc, n, hd⟩, hs⟩ := I.tuple hT
  simp only at hc hd
  subst hc hd
  exact wpAny_binaryOp_repeat_ref (T := "tuple") (U := "int") (by decide) ⟨_, ho, rfl⟩ (fun s' => typeIs_int s' 1 t) noFill_tuple_mul F.fills_int_mul F.slot_int_rmul repeat_tuple F.slot_int_index.lookup
    (call_meets F.slot_int_rmul (typeIs_int s 1 t) F.entry_int_rmul (F.args_int_rmul_2 _ _) (int_rmul_tuple 1 t l its.toArray n dd sl)
      ⟨ho, rfl, ⟨_, ho, rfl⟩, call_meets F.slot_tuple_mul ⟨_, ho, rfl⟩ F.entry_tuple_mul (F.args_tuple_mul_2 _ _) (tuple_mul1 l its.toArray n dd sl t) ⟨ho, .ref l, H, I, rfl, q⟩⟩)
theorem op_repT0 : OpR X (binaryOp .Mult) (rRepT0 X.K) := by
  intro pins s σ H x y v u Q I rx ry h
  obtain ⟨l, xs, rfl, rfl, hT, hne, q⟩ := h
  cases rx
  obtain ⟨t, rfl⟩ := ry
  obtain ⟨its, r, ⟨⟨cls, dd, data, sl⟩, ho, hc, n, hd⟩, hs⟩ := I.tuple hT
  simp only at hc hd
  subst hc hd
  have hle : its.length = xs.length := r.length.symm
  have hi : its.toArray.isEmpty = false := by
    cases its with
    | nil => exact absurd (List.eq_nil_of_length_eq_zero hle.symm) hne
    | cons a b => rfl
  refine wpAny_binaryOp_repeat_ref (T := "tuple") (U := "int") (by decide) ⟨_, ho, rfl⟩ (fun s' => typeIs_int s' 0 t) noFill_tuple_mul F.fills_int_mul F.slot_int_rmul repeat_tuple F.slot_int_index.lookup
    (call_meets F.slot_int_rmul (typeIs_int s 0 t) F.entry_int_rmul (F.args_int_rmul_2 _ _) (int_rmul_tuple 0 t l its.toArray n dd sl)
      ⟨ho, rfl, ⟨_, ho, rfl⟩, call_meets F.slot_tuple_mul ⟨_, ho, rfl⟩ F.entry_tuple_mul (F.args_tuple_mul_2 _ _) (tuple_mul0 l its.toArray n dd sl t hi) ⟨ho, ?_⟩⟩)
  refine ⟨.ref s.heap.objs.size, _, I.laid (t' := s.toks) (o := .tup []) (fun b ob q => Heap.get?_push_of_some _ q) (Nat.le_refl _) ?_, rfl, q _ (I.hok.fresh (Nat.le_refl _))⟩
  exact ⟨by show 0 ≤ sizeLine; decide, [], .nil, PyProof.Rows.IsTup.new _ _⟩
def gRepT : D → D → Option D
  | .tup xs, .int k => if xs ≠ [] ∧ 0 ≤ k ∧ k ≤ 1000 ∧ xs.length ≤ 1000 then some (.tup (List.replicate k.toNat xs).flatten) else none
  | _, _ => none
theorem s_repT {K : PySem.W.Frag} : S2 K (fun x y H Q => (rRepT K x y H Q ∨ rRepT1 K x y H Q) ∨ rRepT0 K x y H Q) gRepT := by
  intro Wx fr w P env h σ H a b x y Q F ra rb q
  cases a with
  | tup xs =>
    cases b with
    | int k =>
      rw [R] at ra
      rw [R] at rb
      obtain ⟨p, vs, rfl, nb, hp, rl⟩ := ra
      subst rb
      rw [show gRepT (.tup xs) (.int k) = if xs ≠ [] ∧ 0 ≤ k ∧ k ≤ 1000 ∧ xs.length ≤ 1000 then some (.tup (List.replicate k.toNat xs).flatten) else none from rfl] at q
      split at q
      · rename_i z
        obtain ⟨z1, z2, z3, z4⟩ := z
        have hl := rl.len
        have vne : vs ≠ [] := fun e => z1 (List.eq_nil_of_length_eq_zero (by rw [← hl, e]; rfl))
        by_cases k0 : k = 0
        · subst k0
          exact .inr ⟨p, vs, rfl, rfl, .of hp, vne, fun l n => tup_fin F q n (by simp [RL])⟩
        · by_cases k1 : k = 1
          · subst k1
            refine .inl (.inr ⟨p, vs, rfl, rfl, .of hp, tX.fin F q ?_⟩)
            have e : (List.replicate (1 : Int).toNat xs).flatten = xs := by simp
            rw [e, R]
            exact ⟨p, vs, rfl, nb, hp, rl⟩
          · exact .inl (.inl ⟨p, k, vs, rfl, rfl, .of hp, vne, by omega, z3, by omega, fun l n => tup_fin F q n (rl.reps _)⟩)
      · exact q.elim
    | _ => exact q.elim
  | _ => exact q.elim
theorem e_repT (ha : PE X a (tE X.K Wx ma)) (hb : PE X b (tE X.K Wx mb)) : PE X (.BinOp a .Mult b pos) (tE X.K Wx (mBin gRepT ma mb)) := e_bin ((op_repT.or op_repT1).or op_repT0) s_repT ha hb
end
end Fx

namespace Fx
open PySem
open L2
/-! ### a def that calls itself: mirrors by fuel -/
theorem good_stuck {P : Program} {w : World} {K : PySem.W.Frag} {mg : Str → Option Value} {base : Heap} {x qual : Str} {st : Stmt} {f : Addr} {fd : FuncData} {ps : List Str} {k n : Nat}
    (F : FunD K x qual (defArgs st) (defBody st) (defScope st) [] [] f fd) (hm : mg x = some (.ref f)) (hb : ∀ (s : Shared) (us : List Value), us.length = ps.length → BindsTo s fd ⟨us, []⟩ (ps.zip us)) : Good P w K mg base x k n (fun _ _ => .stuck) :=
  ⟨f, fd, ps, ⟨fun vs H Q E h => by obtain ⟨_, _, _, _, _, _, _, _, q⟩ := h; exact q.elim, fun A outer s H args us vs Q E _ _ _ _ h => by obtain ⟨_, _, _, _, _, _, _, _, q⟩ := h; exact q.elim⟩, hm, F.kp, hb⟩
/-! ### sorted of a tuple -/
section
variable {prog : Program} {w : World} {A : Around} {E : Value → Shared → Prop} {s : Shared}
open PySem.W PyProof.Rows in
theorem collectT {t : Addr} {vs : List Value} {Q : List Value → Shared → Prop} (ht : s.heap.IsTuple t vs.toArray)
    (h : Q vs { s with heap := (s.heap.push (seqObj "list" #[] 0)).update s.heap.objs.size (Obj.mapSeq (· ++ vs.toArray)) }) (hv : vs.length ≤ sizeLine) :
    wpAny (model prog w) A (collect (.ref t)) Q E s := by
  obtain ⟨o, e0, ec, n, ed⟩ := id ht
  unfold collect
  refine wpAny_bind (wpAny_runValue (codeAny_builtin entry_proto_collect' ?_))
  show wpAny _ _ (do again (.builtin "list.__iadd__" ⟨[← newList [], .ref t], []⟩)) _ _ s
  refine wpAny_bind (wpAny_newList (wpAny_pure ⟨Code.quiet_builtin _ (by decide +kernel), codeAny_builtin entry_list_iadd' ?_⟩))
  show wpAny _ _ (Builtin.List.listExtendWith (.ref s.heap.objs.size) (.ref t) (.ref s.heap.objs.size)) _ _ { s with heap := s.heap.push (seqObj "list" #[] 0) }
  unfold Builtin.List.listExtendWith
  have e1 : (s.heap.push (seqObj "list" #[] 0)).get? t = some o := Heap.get?_push_of_some _ e0
  refine wpAny_bind (wpAny_typeOf (T := "tuple") ⟨o, e1, ec⟩ ?_)
  have et : (Value.type "tuple" == Value.type "tuple") = true := by rfl
  rw [if_pos (by rw [et]; simp)]
  refine wpAny_bind (listItems_at e1 ed ?_)
  refine wpAny_bind (listItems_at (xs := #[]) (n := 0) (Heap.get?_push_size _ rfl) rfl ?_)
  rw [if_neg (by simp)]
  refine wpAny_bind (listUpdate_at (xs := #[]) (n := 0) (Heap.get?_push_size _ rfl) rfl ?_ (Nat.zero_le _) (by show (#[] ++ vs.toArray).size ≤ sizeLine + 1; simp only [Array.size_append, List.size_toArray, List.length_nil]; omega))
  refine wpAny_pure ?_
  show wpAny (model prog w) A (do
      let o ← load s.heap.objs.size
      match o.data with
      | .seq xs _ => pure xs.toList
      | _ => unsupported "internal:collect") Q E { s with heap := (s.heap.push (seqObj "list" #[] 0)).update s.heap.objs.size (Obj.mapSeq (· ++ vs.toArray)) }
  refine wpAny_bind (wpAny_load (get?_update_seq (Heap.get?_push_size _ rfl) _) ?_)
  show wpAny _ _ (pure ((#[] : Array Value) ++ vs.toArray).toList) Q E _
  rw [show ((#[] : Array Value) ++ vs.toArray).toList = vs by simp]
  exact wpAny_pure h
open PySem.W PyProof.Rows in
theorem sorted_valsT {t : Addr} {vs : List Value} {κ : KeyKind} {Q : Value → Shared → Prop} (ht : s.heap.IsTuple t vs.toArray) (S : SortsAt prog w A.in1.in1 { s with heap := sortingHeap (copyHeap s.heap vs) (s.heap.objs.size + 1) vs } κ vs) (hv : vs.length ≤ sizeLine)
    (h : Q (.ref (s.heap.objs.size + 1)) { s with heap := sortedAll s.heap vs (sortVals κ false vs vs).toArray }) : wpAny (model prog w) A (call (.builtin "sorted") [.ref t]) Q E s := by
  refine call_function_entry_kw kind_sorted plain_sorted entry_sorted (args_sorted1 _) ?_
  unfold Builtin.«sorted»
  refine wpAny_bind (m := checkCount "sorted" 1 1 _) (wpAny_pure ?_)
  refine wpAny_bind (collectT ht ?_ hv)
  refine wpAny_bind (wpAny_newList ?_ hv)
  have ez : ((s.heap.push (seqObj "list" #[] 0)).update s.heap.objs.size (Obj.mapSeq (· ++ vs.toArray))).objs.size = s.heap.objs.size + 1 := by
    rw [Heap.size_update, size_push']
  show wpAny _ _ _ _ _ { s with heap := copyHeap s.heap vs }
  rw [ez]
  refine wpAny_bind (wpAny_holding (wpAny_call_entry_kw slot_list_sort ⟨_, copyHeap_at s.heap vs, rfl⟩ entry_list_sort ?body (args_list_sort _)))
  case body =>
    show wpAny (model prog w) A.in1.in1 (Builtin.«list.sort» ⟨[.ref (s.heap.objs.size + 1)], []⟩) _ _ _
    refine wpAny_mono (list_sort_vals (s := { s with heap := copyHeap s.heap vs }) (P := fun f s' => f = .done (.ret .none) ∧ Q (.ref (s.heap.objs.size + 1)) s') (copyHeap_at s.heap vs) S hv ⟨rfl, h⟩) (fun f s' hf => ?_) fun _ _ e => e
    obtain ⟨rfl, hq⟩ := hf
    exact ⟨_, rfl, wpAny_pure ⟨_, rfl, hq⟩⟩
end
section
variable {α β : Type} {prog : Program} {w : World} {A : Around} {E : Value → Shared → Prop} {s : Shared} {vs : List Value} {bs : List β} {R : Value → β → Prop} {enc : β → PyData}
open PySem.W PyProof.Rows in
theorem sorted_dataT {t : Addr} {Q : Value → Shared → Prop} (ht : s.heap.IsTuple t vs.toArray) (e : EachIs R vs bs) (er : EachIs (fun v b => ∃ as, Reads s.heap v (enc b) as) vs bs) (hal : AllAlike (bs.map enc)) (hk : Sortable (bs.map enc)) (hb : bs.length ≤ sizeLine)
    (hu : ∀ b, b ∈ bs → A.units + 2 + (enc b).depth < cLine) (h : ∀ out, out.length = bs.length → EachIs R out (bs.mergeSort (dataLe false enc)) → Q (.ref (s.heap.objs.size + 1)) { s with heap := sortedAll s.heap vs (List.toArray out) }) :
    wpAny (model prog w) A (call (.builtin "sorted") [.ref t]) Q E s := by
  have er2 : EachIs (fun v b => ∃ as, Reads (sortingHeap (copyHeap s.heap vs) (s.heap.objs.size + 1) vs) v (enc b) as) vs bs := er.mono fun _ _ ⟨as, r⟩ => ⟨as, PyProof.Rows.Reads.keeps (fun _ _ => sorting_copy_old) r⟩
  exact sorted_valsT ht (SortsAt.data (s := { s with heap := sortingHeap (copyHeap s.heap vs) (s.heap.objs.size + 1) vs }) (each_map (R := fun v d => ∃ as, Reads (sortingHeap (copyHeap s.heap vs) (s.heap.objs.size + 1) vs) v d as) enc er2) hal hk (bound_map hu)) (by rw [e.length]; exact hb)
    (h _ (by rw [sortVals_length false rfl]; exact e.length) (sortVals_data false e er2 hal))
end
section
variable {X : Cx} {Wx : WX} {a b c e e2 tg iter elt : Expr} {es ifs : List Expr} {pos p p2 apos cpos spos tpos : Pos} {elts : List Expr} {kk : Nat} {ma mb mc me : M D} {mt mu : M Bool} {mr ml mi : M (List D)} {mq mp : M Sq} {mm : M (D × Env')} {st : Stmt} {sts body : List Stmt} {m m' : MS}
def rSortDT (K : PySem.W.Frag) : List V → Hp → VK → Prop := fun xs H Q => ∃ (a : Addr) (bs : List (D × V)), xs = [.ref a] ∧ SqT K H a (bs.map (·.2)) ∧ (∀ b ∈ bs, Dp K H b.2 (toPy b.1)) ∧ PySem.W.AllAlike (bs.map fun b => toPy b.1) ∧ PySem.W.Sortable (bs.map fun b => toPy b.1) ∧
  (∀ b ∈ bs, (toPy b.1).depth ≤ 60) ∧ ∀ p, H p = none → Q (.ref p) (upd H p (.lst ((bs.mergeSort (PySem.W.dataLe false fun b => toPy b.1)).map (·.2))))
theorem cr_sortDT (hu : X.A.units + 64 < cLine) : CallR X (.builtin "sorted") (rSortDT X.K) := by
  intro pins s σ H xs us Q I r h
  obtain ⟨a, bs, rfl, hs, dp, al, so, dd, q⟩ := h
  obtain ⟨its, rv, pl, hz⟩ := I.tuple hs
  rw [Vals.ref1 r]
  have e1 : PySem.W.EachIs (fun (u : Value) (b : D × V) => RelV b.2 u) its bs := by
    clear hs hz dp al so dd q pl
    induction bs generalizing its with
    | nil => cases rv; exact .nil
    | cons b bs ih =>
      cases rv with
      | cons r1 r2 => exact .cons r1 (ih _ r2)
  have e2 : PySem.W.EachIs (fun (u : Value) (b : D × V) => ∃ as, Reads s.heap u (toPy b.1) as) its bs := by
    clear hs hz al so dd q pl e1
    induction bs generalizing its with
    | nil => cases rv; exact .nil
    | cons b bs ih =>
      cases rv with
      | cons r1 r2 => exact .cons (Dp.reads I _ _ _ (dp b List.mem_cons_self) r1) (ih (fun b hb => dp b (List.mem_cons_of_mem _ hb)) _ r2)
  have hlen : bs.length ≤ sizeLine := by simpa using hz
  refine sorted_dataT (R := fun (u : Value) (b : D × V) => RelV b.2 u) (enc := fun b : D × V => toPy b.1) pl e1 e2 al so hlen (fun b hb => by have := dd b hb; omega) fun out ho hout => ?_
  obtain ⟨ep, he'⟩ := PyProof.Rows.sortedAll_at s.heap its out.toArray
  have hv : Vals ((bs.mergeSort (PySem.W.dataLe false fun b => toPy b.1)).map (·.2)) out := by
    clear ho he'
    generalize bs.mergeSort (PySem.W.dataLe false fun b => toPy b.1) = l at hout
    induction hout with
    | nil => exact .nil
    | cons r _ ih => exact .cons r ih
  have hl2 : ((bs.mergeSort (PySem.W.dataLe false fun b => toPy b.1)).map (·.2)).length ≤ sizeLine := by
    rw [List.length_map, List.length_mergeSort]
    exact hlen
  exact ⟨.ref _, upd H (s.heap.objs.size + 1) (.lst _), I.laid (t' := s.toks) (fun _ _ => PyProof.Rows.sortedAll_old) (Nat.le_succ _) ⟨hl2, out, ep, hv, he'⟩, rfl, q _ (I.hok.fresh (Nat.le_succ _))⟩
def qSortedT (q : Sq) : Option D := if q.1 = true ∧ dptL q.2 ≤ 60 ∧ allAlike q.2 = true ∧ sortable q.2 = true then some (.lst (sortD q.2)) else none
theorem sq_sortedT {K : PySem.W.Frag} : SQ K (rSortDT K) qSortedT := by
  intro Wx fr w P env h σ H q x Q F r t
  obtain ⟨p, vs, rfl, _, hs, rl⟩ := r
  obtain ⟨b, ds⟩ := q
  unfold qSortedT at t
  split at t
  · rename_i z
    obtain ⟨zb, zd, za, zs⟩ := z
    dsimp only at zb zd za zs t
    subst zb
    have rl : RL w (Bu fr.O P w) H ds vs := rl
    obtain ⟨⟨e1, e2⟩, m⟩ := rl.zip
    rcases hs with ⟨z, _⟩ | ⟨_, hs⟩
    · cases z
    · have em : (ds.zip vs).map (fun b => toPy b.1) = ds.map toPy := by
        conv => rhs; rw [← e1]
        rw [List.map_map]
        rfl
      refine ⟨p, ds.zip vs, rfl, by rw [e2]; exact .of hs, fun b hb => dp_of b.1 b.2 (m b hb).1 (dpt_mem (m b hb).2 zd), ?_, ?_, fun b hb => Nat.le_trans (lay_of b.1 (dpt_mem (m b hb).2 zd)).2 (dpt_mem (m b hb).2 zd), fun l nl => ?_⟩
      · have := (allAlike_ok zd za).1
        rw [toPyL_map] at this
        rw [em]
        exact this
      · rw [em]
        unfold sortable at zs
        rw [Bool.or_eq_true] at zs
        rcases zs with zs | zs
        · refine .inl fun d hd => ?_
          obtain ⟨c, hc, rfl⟩ := List.mem_map.mp hd
          have := List.all_eq_true.mp zs c hc
          revert this
          cases c with
          | tup l =>
            cases l with
            | nil => intro h; cases h
            | cons y l => intro _; rw [toPy, toPyL]; exact ⟨_, _, rfl⟩
          | _ => intro h; cases h
        · refine .inr fun d hd => ?_
          obtain ⟨c, hc, rfl⟩ := List.mem_map.mp hd
          have := List.all_eq_true.mp zs c hc
          have hdp := dpt_mem hc zd
          revert this
          cases c with
          | tup l => intro h; cases h
          | non => intro h; cases h
          | ref l => rw [dpt] at hdp; omega
          | fn l => rw [dpt] at hdp; omega
          | _ => intro _; rw [toPy]; exact ⟨fun z => (by cases z), fun xs z => (by cases z)⟩
      · have e3 : ((ds.zip vs).mergeSort (PySem.W.dataLe false fun b => toPy b.1)).map (·.1) = sortD ds := by
          unfold sortD
          conv => rhs; rw [← e1]
          exact List.map_mergeSort fun a _ b _ => rfl
        refine lst_fin F t nl ?_
        rw [← e3]
        exact RL.ofPairs fun b hb => (m b (List.mem_mergeSort.mp hb)).1
  · exact t.elim
def qSortedB (q : Sq) : Option D := if dptL q.2 ≤ 60 ∧ allAlike q.2 = true ∧ sortable q.2 = true then some (.lst (sortD q.2)) else none
theorem e_sortedB {k : Nat} (hm : X.mg "sorted" = none) (hr : Room k X.A) (ha : PE X a (tQ X.K Wx mq)) (hg : Gl X "sorted" := by rfl) (he : starEach (a :: []) X.env = (false, eval a X.env) :: starEach [] X.env := by rfl) (hpl : (backTo pos (starEach [] X.env)).any (·.1) = false := by rfl) :
    PE X (.Call (.Name "sorted" p) [a] [] pos) (tE X.K Wx (mQ qSortedB mq)) :=
  orQ (e_sorted hm hr ha hg he hpl) (e_fnQ (cr_sortDT hr.units) sq_sortedT hm bb_sorted ha hg (by decide) (by decide) he hpl)
    (fun ds => by unfold qSortedB qSorted; simp) (fun ds => by unfold qSortedB qSortedT; simp)
end
end Fx

namespace Fx
open PySem
open L2
/-! ### t[::-1] -/
section
open PySem.Spec PyProof.Rows
variable {prog : Program} {w : World} {A : Around} {E : Value → Shared → Prop} {s : Shared}
theorem places_rev (n : Nat) : Builtin.Slice.slicePlaces ((n : Int) - 1) (-1) (-1) = n := by
  unfold Builtin.Slice.slicePlaces
  have h1 : ¬ ((-1 : Int) > 0) := by decide
  by_cases h : (n : Int) - 1 > -1
  · have e : ((n : Int) - 1 - -1 - 1) / (- -1) = (n : Int) - 1 := by
      rw [show (- -1 : Int) = 1 by decide, Int.ediv_one]
      omega
    simp only [h1, if_false, h, if_true, e]
    omega
  · simp only [h1, if_false, h, if_false]
    omega
theorem pick_rev (xs : Array Value) : ((List.range xs.size).filterMap fun (m : Nat) => xs[((xs.size : Int) - 1 + (m : Int) * -1).toNat]?).toArray = xs.toList.reverse.toArray := by
  have e : ((List.range xs.size).filterMap fun (m : Nat) => xs[((xs.size : Int) - 1 + (m : Int) * -1).toNat]?) = ((List.range xs.size).map fun k => xs.size - 1 - k).filterMap (xs[·]?) := by
    rw [List.filterMap_map]
    have key : ∀ l : List Nat, (∀ k ∈ l, k < xs.size) → (l.filterMap fun (m : Nat) => xs[((xs.size : Int) - 1 + (m : Int) * -1).toNat]?) = l.filterMap ((xs[·]?) ∘ fun k => xs.size - 1 - k) := by
      intro l
      induction l with
      | nil => intro _; rfl
      | cons k l ih =>
        intro h
        have := h k List.mem_cons_self
        rw [List.filterMap_cons, List.filterMap_cons, ih fun j hj => h j (List.mem_cons_of_mem _ hj)]
        rw [show ((xs.size : Int) - 1 + (k : Int) * -1).toNat = xs.size - 1 - k by omega]
        rfl
    exact key _ fun k hk => List.mem_range.mp hk
  rw [e, PySem.W.krv_range, List.filterMap_reverse, PySem.W.krv_all]
theorem getItem_tuple_rev {t sl : Addr} {items : Array Value} {vl vu vs : Value} {Q : Value → Shared → Prop} (ht : IsTup s.heap t items) (hs : s.heap.IsSliceOf sl vl vu vs) (pl : IsPart vl none) (pu : IsPart vu none) (ps : IsPart vs (some (-1)))
    (h : Q (.ref s.heap.objs.size) { s with heap := s.heap.push { cls := .type "tuple", data := .seq items.toList.reverse.toArray } })
    (hsz : items.size ≤ sizeLine) : wpAny (model prog w) A (getItem (.ref t) (.ref sl)) Q E s := by
  have htake : sizeOk (.seq items.toList.reverse.toArray) := by
    show items.toList.reverse.toArray.size ≤ sizeLine
    simpa using hsz
  obtain ⟨os, hos, hcs, hds⟩ := id hs
  have hTs : s.TypeIs (.ref sl) "slice" := ⟨os, hos, hcs⟩
  unfold getItem
  try with_reducible refine wpAny_holding ?_
  first | refine wpAny_bind (wpAny_pure ?_) | skip
  refine wpAny_bind (wpAny_sequenceKey ht.typeIs (by decide) ?_)
  refine wpAny_bind (wpAny_callSpecial?_slot (name := Str.ofString "__getitem__") ht.typeIs PyProof.Rows.slot_tuple_getitem
    (wpAny_call_entry PyProof.Rows.slot_tuple_getitem ht.typeIs PyProof.Rows.entry_tuple_getitem ?_ (PyProof.Rows.args_tuple_getitem _ _)))
  show wpAny _ _ (Builtin.Tuple.tupleItemsOf (.ref t) >>= _) _ _ s
  refine wpAny_bind (PyProof.Rows.tupleItemsOf_ ht ?_)
  refine wpAny_bind (wpAny_typeOf hTs ?_)
  rw [if_pos (by decide)]
  refine wpAny_bind ?_
  unfold Builtin.Slice.sliceApplied Builtin.Slice.sliceFields
  refine wpAny_bind (wpAny_bind (wpAny_field hos hds (x := vl) rfl (wpAny_bind (wpAny_field hos hds (x := vu) rfl (wpAny_bind (wpAny_field hos hds (x := vs) rfl (wpAny_pure ?_)))))))
  refine wpAny_bind (HT.slicePart_ ps ?_)
  show wpAny _ _ (if ((-1 : Int) == 0) = true then _ else _) _ _ s
  rw [if_neg (by decide)]
  refine wpAny_bind (HT.slicePart_ pl (wpAny_bind (HT.slicePart_ pu (wpAny_bind (wpAny_pure ?_)))))
  show wpAny _ _ (pure ((items.size : Int) - 1, (-1 : Int), Builtin.Slice.slicePlaces ((items.size : Int) - 1) (-1) (-1))) _ _ s
  rw [places_rev]
  refine wpAny_pure ?_
  have hno : ¬ ((((items.size : Int) - 1) == 0 && (-1 : Int) == 1 && items.size == items.size) = true) := by
    intro q
    rw [Bool.and_eq_true, Bool.and_eq_true] at q
    exact absurd q.1.2 (by decide)
  show wpAny _ _ (if (((items.size : Int) - 1) == 0 && (-1 : Int) == 1 && items.size == items.size) = true then _ else _) _ _ s
  rw [if_neg hno, pick_rev]
  first
    | exact wpAny_bind (m := Builtin.Tuple.tupleExact _) (wpAny_newObj_type (wpAny_pure ⟨_, rfl, wpAny_pure h⟩) htake)
    | exact wpAny_bind (m := Builtin.Tuple.tupleExact _) (wpAny_newObj_type (wpAny_bind (wpAny_pure (wpAny_pure ⟨_, rfl, wpAny_pure h⟩))) htake)
    | exact wpAny_bind (wpAny_bind (m := Builtin.Tuple.tupleExact _) (wpAny_newObj_type (wpAny_pure (wpAny_pure ⟨_, rfl, wpAny_pure h⟩)) htake))
    | exact wpAny_bind (wpAny_bind (m := Builtin.Tuple.tupleExact _) (wpAny_newObj_type (wpAny_pure ⟨_, rfl, wpAny_pure h⟩) htake))
end
section
open PySem.Spec PyProof.Rows
variable {X : Cx} {Wx : WX} {a b c e e2 e3 tg iter elt : Expr} {es ifs : List Expr} {pos p p2 p1 p3 apos cpos spos tpos : Pos} {elts : List Expr} {kk : Nat} {ma mb mc me : M D} {mt mu : M Bool} {mr ml mi : M (List D)} {mq mp : M Sq} {mm : M (D × Env')} {st : Stmt} {sts body : List Stmt} {m m' : MS}
def tRevT (K : PySem.W.Frag) (te : TE) : TE := fun σ H Q => te σ H fun x H1 => ∃ a xs, x = .ref a ∧ SqT K H1 a xs ∧ ∀ p, H1 p = none → Q (.ref p) (upd H1 p (.tup xs.reverse))
theorem pe_revT {te : TE} {k : Nat} (he : PE X e te) : PE X (.Subscript e (.Slice none none (some (.UnaryOp .USub (.Constant (.int 1) k p1) p2)) p3) pos) (tRevT X.K te) := by
  refine ⟨fun pins s σ H Q I h => ?_⟩
  refine PyProof.Rows.Subscript_ (thn (he.run pins s σ H _ I h) fun v s1 ⟨x, H1, I1, r1, q1⟩ => ?_)
  obtain ⟨a, xs, ex, hx, q⟩ := q1
  subst ex
  cases r1
  have hst : PO X (some (.UnaryOp .USub (.Constant (.int 1) k p1) p2)) (tPart (tUn (rU fun i => .int (-i)) (tC (.int 1)))) := po_some (pe_un un_neg pe_int)
  refine wpAny_Slice (thn (po_none.run pins s1 σ H1 (fun o H2 => o = none ∧ H2 = H1) I1 ⟨rfl, rfl⟩) fun vl s2 ⟨l, H2, I2, pl, el, e2⟩ => ?_)
  subst el e2
  refine thn (po_none.run pins s2 σ H2 (fun o H3 => o = none ∧ H3 = H2) I2 ⟨rfl, rfl⟩) fun vu s3 ⟨u, H3, I3, pu, eu, e3⟩ => ?_
  subst eu e3
  refine thn (hst.run pins s3 σ H3 (fun o H4 => o = some (-1) ∧ H4 = H3) I3 ⟨1, rfl, -1, rfl, rfl, rfl⟩) fun vs s4 ⟨o, H4, I4, ps, eo, e4⟩ => ?_
  subst eo e4
  have I5 : Inv X pins σ H4 { s4 with heap := s4.heap.push { cls := .type "slice", data := .fields #[vl, vu, vs] } } := I4.kept (t' := s4.toks) fun b ob q => Heap.get?_push_of_some _ q
  obtain ⟨its, r, ht, hz⟩ := I5.tuple hx
  have hlen := r.length
  show wpAny (model X.prog X.w) X.A (subscriptTail e (.Slice none none (some (.UnaryOp .USub (.Constant (.int 1) k p1) p2)) p3) (.ref a) (.ref s4.heap.objs.size)) (EP X pins σ Q) X.xe { s4 with heap := s4.heap.push { cls := .type "slice", data := .fields #[vl, vu, vs] } }
  refine PyProof.Rows.tail_any (ops := [.ref a, .ref s4.heap.objs.size]) ht.typeIs (PyProof.Rows.slot_tuple_getitem.lookup) ?_ (by with_unfolding_all rfl)
  refine getItem_tuple_rev ht (Heap.IsSliceOf.new _ vl vu vs) pl pu ps ?_ (by rw [List.size_toArray]; omega)
  refine ⟨.ref _, _, I5.laid (t' := s4.toks) (o := .tup xs.reverse) (fun b ob q => Heap.get?_push_of_some _ q) (Nat.le_refl _) ?_, rfl, q _ (I5.hok.fresh (Nat.le_refl _))⟩
  exact ⟨by rw [List.length_reverse]; exact hz, _, r.reverse, IsTup.new _ _⟩
def gRev : D → Option D
  | .tup ds => some (.tup ds.reverse)
  | .lst ds => some (.lst ds.reverse)
  | _ => none
theorem e_rev {k : Nat} (he : PE X e (tE X.K Wx ma)) : PE X (.Subscript e (.Slice none none (some (.UnaryOp .USub (.Constant (.int 1) k p1) p2)) p3) pos) (tE X.K Wx (mUn gRev ma)) :=
  peI (PE.or (pe_revT he) (pe_revL he)) fun σ H Q ⟨fr, w, P, env, h, F, q⟩ => by
    unfold mUn at q
    revert q
    cases em : ma env h with
    | stuck => exact fun q => q.elim
    | exc c h' =>
      intro q
      exact .inl ⟨fr, w, P, env, h, F, by rw [em]; exact q⟩
    | ok d h' =>
      intro q
      cases d with
      | tup ds =>
        refine .inl ⟨fr, w, P, env, h, F, ?_⟩
        rw [em]
        intro w' x H' g rh r
        have F' := F.grow g rh
        rw [R] at r
        obtain ⟨a, vs, rfl, nb, ha, rl⟩ := r
        exact ⟨a, vs, rfl, .of ha, fun p n => tup_fin F' (tX.grow g q) n rl.rev⟩
      | lst ds =>
        refine .inr ⟨fr, w, P, env, h, F, ?_⟩
        rw [em]
        intro w' x H' g rh r
        have F' := F.grow g rh
        rw [R] at r
        obtain ⟨a, vs, rfl, nb, ha, rl⟩ := r
        exact ⟨a, vs, rfl, .of ha, fun p n => lst_fin F' (tX.grow g q) n rl.rev⟩
      | _ => exact q.elim
end
end Fx

namespace Fx
open PySem
open L2
/-! ### a, b = [..], y -/
section
variable {K : PySem.W.Frag} {Wx : WX} {fr : Fr} {w w1 : Wd} {P P1 : Addr → Prop} {env : Env'} {h h1 : AH} {σ : L2.St} {H H1 : Hp}
/-- a new list has come, no slot holds it yet -/
theorem RelF.newP {ds : List D} {p : Addr} {vs : List V} (F : RelF K fr w P env h σ H) (g : Grow w H w1 H1) (n : H p = none)
    (rh : RelH K w1 (Bu fr.O (fun a => P a ∨ a = p) w1) h1 H1) (e : H1 p = some (.lst vs)) (nw : ¬ w1.W p) (r : RL w1 (Bu fr.O (fun a => P a ∨ a = p) w1) H1 ds vs) :
    RelF K fr w1 (fun a => P a ∨ a = p) env h1 σ H1 ∧ Kw fr.O P w H (fun a => P a ∨ a = p) w1 H1 ∧ ∀ (i : Nat) es, env[i]? = some (.own es) → σ[i]? ≠ some (some (.ref p)) := by
  obtain ⟨F', k⟩ := F.setOwn (i := env.length) g n rh e nw r
  rw [List.set_eq_of_length_le (Nat.le_refl _), List.set_eq_of_length_le (by rw [F.len]; exact Nat.le_refl _)] at F'
  refine ⟨F', k, fun i es q z => ?_⟩
  obtain ⟨q', us, z1, z2, z3, _⟩ := F.sl i _ q
  rw [z] at z1
  cases z1
  rw [n] at z3
  cases z3
/-- a slot gets a list of its own that stands in no slot -/
theorem RelF.setAt {i : Nat} {ds : List D} {p : Addr} {vs : List V} (F : RelF K fr w P env h σ H) (hp : P p) (e : H p = some (.lst vs)) (r : RL w (Bu fr.O P w) H ds vs)
    (no : ∀ (i : Nat) es, env[i]? = some (.own es) → σ[i]? ≠ some (some (.ref p))) : RelF K fr w P (env.set i (.own ds)) h (σ.set i (some (.ref p))) H := by
  refine ⟨F.rh, F.gr, F.ob, F.pp, fun j s q => ?_, fun j l es fs a e1 e2 e3 e4 => ?_, by rw [List.length_set, List.length_set]; exact F.len⟩
  · by_cases hj : i = j
    · subst hj
      by_cases hl : i < env.length
      · rw [List.getElem?_set_self hl] at q
        cases q
        have hl' : i < σ.length := by rw [← F.len]; exact hl
        rw [List.getElem?_set_self hl']
        exact ⟨p, vs, rfl, hp, e, r⟩
      · rw [List.getElem?_eq_none (by simpa using hl)] at q
        cases q
    · rw [List.getElem?_set_ne hj] at q ⊢
      exact F.sl j s q
  · have selfp : ∀ {m : Nat} {a : Addr}, i = m → (σ.set i (some (.ref p)))[m]? = some (some (.ref a)) → a = p := fun {m a} z q => by
      subst z
      by_cases hl : i < σ.length
      · rw [List.getElem?_set_self hl] at q; cases q; rfl
      · rw [List.getElem?_eq_none (by simpa using hl)] at q; cases q
    by_cases hj : i = j
    · by_cases hl : i = l
      · rw [← hj, hl]
      · have z := selfp hj e3
        subst z
        rw [List.getElem?_set_ne hl] at e2 e4
        exact absurd e4 (no l _ e2)
    · by_cases hl : i = l
      · have z := selfp hl e4
        subst z
        rw [List.getElem?_set_ne hj] at e1 e3
        exact absurd e3 (no j _ e1)
      · rw [List.getElem?_set_ne hj] at e1 e3
        rw [List.getElem?_set_ne hl] at e2 e4
        exact F.inj j l es fs a e1 e2 e3 e4
end
def mParL (i : Nat) (js : List Nat) (ml mr : M (List D)) : MS := fun env h => bndS (ml env h) env fun ds h => bndS (mr env h) env fun es h => match asL js es (env.set i (.own ds)) with
  | some env' => .next env' h
  | none => .stuck
section
variable {X : Cx} {Wx : WX} {a b c e e2 e3 tg iter elt : Expr} {es ifs : List Expr} {pos p p2 p1 p3 apos cpos spos tpos : Pos} {elts : List Expr} {kk : Nat} {ma mb mc me : M D} {mt mu : M Bool} {mr ml mi : M (List D)} {mq mp : M Sq} {mm : M (D × Env')} {st : Stmt} {sts body : List Stmt} {m m' : MS}
/-- the rest's values into their slots -/
theorem RelF.sets {K : PySem.W.Frag} {fr : Fr} {w : Wd} {P : Addr → Prop} {h : AH} {H : Hp} : ∀ {js : List Nat} {es : List D} {us : List V} {env env' : Env'} {σ : L2.St}, RelF K fr w P env h σ H → RL w (Bu fr.O P w) H es us → asL js es env = some env' →
    RelF K fr w P env' h ((js.zip us).foldl (fun σ p => σ.set p.1 (some p.2)) σ) H
  | [], [], us, env, env', σ, F, r, e => by cases e; simpa using F
  | [], _ :: _, _, _, _, _, _, _, e => by cases e
  | _ :: _, [], _, _, _, _, _, _, e => by cases e
  | j :: js, d :: es, us, env, env', σ, F, r, e => by
    rw [RL] at r
    obtain ⟨v, t, rfl, r1, r2⟩ := r
    rw [List.zip_cons_cons, List.foldl_cons]
    exact RelF.sets (F.set r1) r2 e
theorem parL_ok {i : Nat} {js : List Nat} {D : Ends} {σ : L2.St} {H : Hp} (q0 : tS X.K Wx (mParL i js ml mr) D σ H) :
    tL X.K Wx ml σ H fun x H1 => tA X.K Wx mr σ H1 fun us H2 => us.length = js.length ∧ D.nx ((js.zip us).foldl (fun σ p => σ.set p.1 (some p.2)) (σ.set i (some x))) H2 := by
  obtain ⟨fr, w, P, env, h, F, q⟩ := q0
  refine ⟨fr, w, P, env, h, F, ?_⟩
  unfold mParL at q
  have z := sX.bndL F q
  revert z
  cases ml env h with
  | exc c h' => exact id
  | stuck => exact id
  | ok ds h' =>
    intro z w' p vs H' g rh n e nw rl
    obtain ⟨ds', p', vs', w1, h1, e', rh', g', n', e1, nw', rl', q'⟩ := z w' p vs H' g rh n e nw rl
    cases e'
    obtain ⟨F', kp, no⟩ := F.newP g' n' rh' e1 nw' rl'
    have q1 := sX.on kp q'
    refine oneS F' q1 fun es w2 h2 us H2 F2 r2 g2 q2 => ?_
    cases ea : asL js es (env.set i (.own ds')) with
    | none => rw [ea] at q2; exact q2.elim
    | some env' =>
      rw [ea] at q2
      refine ⟨by rw [r2.len]; exact asL_len ea, ?_⟩
      have e2 : H2 p = some (.lst vs') := g2.keep _ _ e1 nw'
      have F3 := F2.setAt (i := i) (ds := ds') (.inr rfl) e2 (RL.keep g2.rho g2.keepB _ _ rl') no
      exact sX.go (F3.sets r2 ea) .refl q2
theorem s_parL2 (i j : Nat) {x y : Str} {px py pt : Pos} {kt k2 pt2} (hN : X.N.Nodup) (ha : PE X a (tL X.K Wx ml)) (hb : PA X [b] (tA X.K Wx mr)) (hi : X.N[i]? = some x := by rfl) (hj : X.N[j]? = some y := by rfl) (hij : i ≠ j := by decide) (hc : X.calm = true := by rfl)
    (hx : X.env.scope.names.lookup x = some .local := by rfl) (hy : X.env.scope.names.lookup y = some .local := by rfl)
    (hw : swappedStores [.Tuple [.Name x px, .Name y py] kt pt] (.Tuple [a, b] k2 pt2) X.env = pure (some [x, y]) := by rfl) (hs : swapsWithSole [.Tuple [.Name x px, .Name y py] kt pt] (.Tuple [a, b] k2 pt2) pos.line X.env = pure false := by rfl)
    (hst : starEach [a, b] X.env = (false, eval a X.env) :: starEach [b] X.env := by rfl) :
    PS X (.Assign [.Tuple [.Name x px, .Name y py] kt pt] (.Tuple [a, b] k2 pt2) pos) (tS X.K Wx (mParL i [j] ml mr)) :=
  psI (ps_par hc hN hi hj hij hx hy (pa_cons ha hb hst) hw hs) fun D σ H q => by
    obtain ⟨fr, w, P, env, h, F, q⟩ := parL_ok q
    refine ⟨fr, w, P, env, h, F, ?_⟩
    revert q
    cases ml env h with
    | exc c h' => exact id
    | stuck => exact id
    | ok ds h' =>
      intro q w' p vs H' g rh n e nw rl
      obtain ⟨fr, w, P, env, h, F, q⟩ := q w' p vs H' g rh n e nw rl
      refine ⟨fr, w, P, env, h, F, tX.imp q ?_⟩
      rintro us H2 ⟨l, q⟩
      match us, l with
      | [u], _ => exact ⟨_, _, rfl, q⟩
theorem s_parL3 (i j l : Nat) {x y z : Str} {px py pz pt : Pos} {kt k2 pt2} (hN : X.N.Nodup) (ha : PE X a (tL X.K Wx ml)) (hb : PA X [b, c] (tA X.K Wx mr)) (hi : X.N[i]? = some x := by rfl) (hj : X.N[j]? = some y := by rfl) (hl : X.N[l]? = some z := by rfl) (hij : i ≠ j := by decide) (hil : i ≠ l := by decide) (hjl : j ≠ l := by decide) (hc : X.calm = true := by rfl)
    (hx : X.env.scope.names.lookup x = some .local := by rfl) (hy : X.env.scope.names.lookup y = some .local := by rfl) (hz : X.env.scope.names.lookup z = some .local := by rfl)
    (hw : swappedStores [.Tuple [.Name x px, .Name y py, .Name z pz] kt pt] (.Tuple [a, b, c] k2 pt2) X.env = pure (some [x, y, z]) := by rfl) (hs : swapsWithSole [.Tuple [.Name x px, .Name y py, .Name z pz] kt pt] (.Tuple [a, b, c] k2 pt2) pos.line X.env = pure false := by rfl)
    (hst : starEach [a, b, c] X.env = (false, eval a X.env) :: starEach [b, c] X.env := by rfl) :
    PS X (.Assign [.Tuple [.Name x px, .Name y py, .Name z pz] kt pt] (.Tuple [a, b, c] k2 pt2) pos) (tS X.K Wx (mParL i [j, l] ml mr)) :=
  psI (ps_par3 hc hN hi hj hl hij hil hjl hx hy hz (pa_cons ha hb hst) hw hs) fun D σ H q => by
    obtain ⟨fr, w, P, env, h, F, q⟩ := parL_ok q
    refine ⟨fr, w, P, env, h, F, ?_⟩
    revert q
    cases ml env h with
    | exc c h' => exact id
    | stuck => exact id
    | ok ds h' =>
      intro q w' p vs H' g rh n e nw rl
      obtain ⟨fr, w, P, env, h, F, q⟩ := q w' p vs H' g rh n e nw rl
      refine ⟨fr, w, P, env, h, F, tX.imp q ?_⟩
      rintro us H2 ⟨l, q⟩
      match us, l with
      | [u, u'], _ => exact ⟨_, _, _, rfl, q⟩
/-- a, b, c = x, y, z -/
def mPar3 (i j l : Nat) (a : M (List D)) : MS := fun env h => bndS (a env h) env fun ds h => match ds with
  | [d, d', d''] => .next (((env.set i (.val d)).set j (.val d')).set l (.val d'')) h
  | _ => .stuck
theorem s_par3 (i j l : Nat) {x y z : Str} {px py pz pt : Pos} {kt k2 pt2} (hN : X.N.Nodup) (ha : PA X [a, b, c] (tA X.K Wx mr)) (hi : X.N[i]? = some x := by rfl) (hj : X.N[j]? = some y := by rfl) (hl : X.N[l]? = some z := by rfl) (hij : i ≠ j := by decide) (hil : i ≠ l := by decide) (hjl : j ≠ l := by decide) (hc : X.calm = true := by rfl)
    (hx : X.env.scope.names.lookup x = some .local := by rfl) (hy : X.env.scope.names.lookup y = some .local := by rfl) (hz : X.env.scope.names.lookup z = some .local := by rfl)
    (hw : swappedStores [.Tuple [.Name x px, .Name y py, .Name z pz] kt pt] (.Tuple [a, b, c] k2 pt2) X.env = pure (some [x, y, z]) := by rfl) (hs : swapsWithSole [.Tuple [.Name x px, .Name y py, .Name z pz] kt pt] (.Tuple [a, b, c] k2 pt2) pos.line X.env = pure false := by rfl) :
    PS X (.Assign [.Tuple [.Name x px, .Name y py, .Name z pz] kt pt] (.Tuple [a, b, c] k2 pt2) pos) (tS X.K Wx (mPar3 i j l mr)) :=
  psI (ps_par3 hc hN hi hj hl hij hil hjl hx hy hz ha hw hs) fun D σ H ⟨fr, w, P, env, h, F, q⟩ => oneS F q fun ds w2 h2 xs H2 F2 r2 _ q2 => by
    split at q2
    · rename_i d d' d''
      obtain ⟨v, v', v'', rfl, r3, r4, r5⟩ := r2.three
      exact ⟨v, v', v'', rfl, sX.go (((F2.set r3).set r4).set r5) .refl q2⟩
    · exact q2.elim
end
end Fx

namespace Fx
open PySem
open L2
/-! ### zip of three, lists or tuples -/
def Itz3 (k m l : Bool) (K : PySem.W.Frag) (a b c : Addr) : It :=
  ⟨fun i H => ∃ (xs ys zs : List V) (x y z : V), SqB k K H a xs ∧ SqB m K H b ys ∧ SqB l K H c zs ∧ xs[i]? = some x ∧ ys[i]? = some y ∧ zs[i]? = some z,
    fun i H v H' => ∃ T x y z, v = .ref T ∧ H T = none ∧ H' = upd H T (.tup [x, y, z]) ∧ (∀ xs, SqB k K H a xs → xs[i]? = some x) ∧ (∀ ys, SqB m K H b ys → ys[i]? = some y) ∧ ∀ zs, SqB l K H c zs → zs[i]? = some z,
    fun i H => ∃ xs ys zs : List V, SqB k K H a xs ∧ SqB m K H b ys ∧ SqB l K H c zs ∧ (xs.length ≤ i ∨ ys.length ≤ i ∨ zs.length ≤ i)⟩
/-- how far an iterator is drawn: not yet at its end, or at it -/
theorem drawsAny {prog : Program} {w : World} {A : Around} (hh : A.handled = none) (k : Bool) (it a : Addr) (hne : a ≠ it) (its : Array Value) (i : Nat) {h : Heap} (hi : iterB k h it a i) (hs : seqB k h a its) :
    ∃ (n : Nat) (Pv : Nat → Value → Prop) (St : Nat → Heap → Prop), Draws prog w A it [it, a] n Pv St ∧ St i h ∧ i ≤ n ∧ (its.size ≤ i → i = n) := by
  by_cases g : its.size ≤ i
  · exact ⟨i, _, _, drawsBe hh k it a its i (by simpa using g), ⟨rfl, hi, hs⟩, Nat.le_refl _, fun _ => rfl⟩
  · exact ⟨its.size, _, _, drawsB hh k it a hne its, ⟨hi, hs⟩, by omega, fun z => by omega⟩
theorem turn_zip3 {P : Program} {w : World} {K : PySem.W.Frag} {elts : List Expr} {kk : Nat} {tpos : Pos} {k m l : Bool} {a b c z TI TO i1 i2 i3 : Addr} (S : ZipSep3 z TI TO i1 i2 i3 [i1, a] [i2, b] [i3, c]) (n1 : a ≠ i1) (n2 : b ≠ i2) (n3 : c ≠ i3) :
    Turn P w K (.Tuple elts kk tpos) (Itz3 k m l K a b c) [z, TI, TO, i1, i2, i3] z (fun i h => IsZip h z TI TO .none ∧ IsTupOf3 h TI (.ref i1) (.ref i2) (.ref i3) ∧ (∃ x y u, IsTupOf3 h TO x y u) ∧ iterB k h i1 a i ∧ iterB m h i2 b i ∧ iterB l h i3 c i) where
  mem := by simp
  obj := fun i h st c hc => by
    obtain ⟨hz, hTI, ⟨x, y, u, hTO⟩, h1, h2, h3⟩ := st
    have e' : c = z ∨ c = TI ∨ c = TO ∨ c = i1 ∨ c = i2 ∨ c = i3 := by simpa using hc
    rcases e' with q | q | q | q | q | q
    · rw [q]; exact ⟨_, hz, fun v q => nomatch q⟩
    · rw [q]; exact ⟨_, hTI, fun v q => nomatch q⟩
    · rw [q]; exact ⟨_, hTO, fun v q => nomatch q⟩
    · rw [q]; exact iterB_obj h1
    · rw [q]; exact iterB_obj h2
    · rw [q]; exact iterB_obj h3
  keep := fun i h h' st k => by
    obtain ⟨hz, hTI, ⟨x, y, u, hTO⟩, h1, h2, h3⟩ := st
    exact ⟨k z (by simp) _ hz, k TI (by simp) _ hTI, ⟨x, y, u, k TO (by simp) _ hTO⟩, iterB_at h1 fun o q => k i1 (by simp) o q, iterB_at h2 fun o q => k i2 (by simp) o q, iterB_at h3 fun o q => k i3 (by simp) o q⟩
  item := by
    intro X hP hw hK hc i pins s σ H E I hf st hg
    subst hP hw hK
    obtain ⟨hz, hTI, ⟨x0, y0, u0, hTO⟩, h1, h2, h3⟩ := st
    obtain ⟨xs, ys, zs, x, y, t, hqx, hqy, hqz, hx, hy, ht⟩ := hg
    obtain ⟨its, rv, p, _⟩ := Inv_seq I hqx
    obtain ⟨its2, rv2, p2, _⟩ := Inv_seq I hqy
    obtain ⟨its3, rv3, p3, _⟩ := Inv_seq I hqz
    obtain ⟨u, hu, ru⟩ := rv.get hx
    obtain ⟨u2, hu2, ru2⟩ := rv2.get hy
    obtain ⟨u3, hu3, ru3⟩ := rv3.get ht
    have hh : X.A.in1.handled = none := I.ok.hd hc
    have hzl : z < s.heap.objs.size := Heap.lt_size hz
    have l1 : i < its.toArray.size := by have := (List.getElem?_eq_some_iff.mp hu).1; simpa using this
    have l2 : i < its2.toArray.size := by have := (List.getElem?_eq_some_iff.mp hu2).1; simpa using this
    have l3 : i < its3.toArray.size := by have := (List.getElem?_eq_some_iff.mp hu3).1; simpa using this
    refine wpAny_pyNext_zipD3_item S (drawsB hh k i1 a n1 its.toArray) (drawsB hh m i2 b n2 its2.toArray) (drawsB hh l i3 c n3 its3.toArray) hz hTI hTO ⟨h1, p⟩ ⟨h2, p2⟩ ⟨h3, p3⟩ l1 l2 l3 fun v1 v2 v3 h' tk e1 e2 e3 z' TO' st1 st2 st3 hT hsz hk => ?_
    have ev1 : v1 = u := by
      have : its.toArray[i]? = some v1 := e1
      simp at this
      rw [hu] at this
      exact (Option.some.inj this).symm
    have ev2 : v2 = u2 := by
      have : its2.toArray[i]? = some v2 := e2
      simp at this
      rw [hu2] at this
      exact (Option.some.inj this).symm
    have ev3 : v3 = u3 := by
      have : its3.toArray[i]? = some v3 := e3
      simp at this
      rw [hu3] at this
      exact (Option.some.inj this).symm
    subst ev1 ev2 ev3
    refine ⟨_, rfl, wpAny_letOwnedTupleGo_zip (s := { s with heap := h', toks := tk }) z' fun h'' z'' sb => ?_⟩
    have hT2 : h''.get? s.heap.objs.size = some { cls := .type "tuple", data := .seq #[v1, v2, v3] } := (sb.2 _ (Nat.ne_of_gt hzl)).trans hT
    have new : ObjOk X.prog X.w (upd H s.heap.objs.size (.tup [x, y, t])) h'' s.heap.objs.size (.tup [x, y, t]) :=
      ⟨by show 3 ≤ sizeLine; decide, [v1, v2, v3], .cons ru (.cons ru2 (.cons ru3 .nil)), ⟨_, hT2, rfl, _, rfl⟩⟩
    have I1 : Inv X pins σ (upd H s.heap.objs.size (.tup [x, y, t])) { s with heap := h'', toks := tk } :=
      I.turnedNew (t' := tk) (ch := [z, TI, TO, i1, i2, i3]) (fun c o hb q => (sb.2 c (fun q' => hb (by simp [q']))).trans (hk c o (fun q' => hb (by simp [q'])) (fun q' => hb (by simp [q'])) (fun q' => hb (by simp [q'])) (fun q' => hb (by simp [q'])) (fun q' => hb (by simp [q'])) q)) hf (Nat.le_refl _) new
    refine ⟨.ref s.heap.objs.size, _, I1, rfl, ⟨_, x, y, t, rfl, I.hok.fresh (Nat.le_refl _), rfl, fun l hl => by rw [Inv_seq_inj I hl hqx]; exact hx, fun l hl => by rw [Inv_seq_inj I hl hqy]; exact hy, fun l hl => by rw [Inv_seq_inj I hl hqz]; exact ht⟩, ⟨z'', ?_, ⟨v1, v2, v3, ?_⟩, ?_, ?_, ?_⟩, fun c hcm => ?_⟩
    · exact (sb.2 _ S.TIz).trans (hk _ _ S.TIz S.TITO S.TIi1 S.TIi2 S.TIi3 hTI)
    · exact (sb.2 _ S.TOz).trans TO'
    · exact iterB_at st1.1 fun o q => (sb.2 _ S.zi1.symm).trans q
    · exact iterB_at st2.1 fun o q => (sb.2 _ S.zi2.symm).trans q
    · exact iterB_at st3.1 fun o q => (sb.2 _ S.zi3.symm).trans q
    · have hlt : c < s.heap.objs.size := by
        have e' : c = z ∨ c = TI ∨ c = TO ∨ c = i1 ∨ c = i2 ∨ c = i3 := by simpa using hcm
        rcases e' with q | q | q | q | q | q
        · rw [q]; exact hzl
        · rw [q]; exact Heap.lt_size hTI
        · rw [q]; exact Heap.lt_size hTO
        · rw [q]; obtain ⟨_, e1, _⟩ := iterB_obj h1; exact Heap.lt_size e1
        · rw [q]; obtain ⟨_, e2, _⟩ := iterB_obj h2; exact Heap.lt_size e2
        · rw [q]; obtain ⟨_, e3, _⟩ := iterB_obj h3; exact Heap.lt_size e3
      rw [upd_ne (Nat.ne_of_lt hlt)]
      exact (hf c hcm).1
  done := by
    intro X hP hw hK hc i pins s σ H E I hf st hg
    subst hP hw hK
    obtain ⟨hz, hTI, ⟨x0, y0, u0, hTO⟩, h1, h2, h3⟩ := st
    obtain ⟨xs, ys, zs, hqx, hqy, hqz, hend⟩ := hg
    obtain ⟨its, rv, p, _⟩ := Inv_seq I hqx
    obtain ⟨its2, rv2, p2, _⟩ := Inv_seq I hqy
    obtain ⟨its3, rv3, p3, _⟩ := Inv_seq I hqz
    have hh : X.A.in1.handled = none := I.ok.hd hc
    have l1 := rv.length
    have l2 := rv2.length
    have l3 := rv3.length
    obtain ⟨m1, Pv1, St1, D1, s1, le1, d1⟩ := drawsAny (prog := X.prog) (w := X.w) hh k i1 a n1 its.toArray i h1 p
    obtain ⟨m2, Pv2, St2, D2, s2, le2, d2⟩ := drawsAny (prog := X.prog) (w := X.w) hh m i2 b n2 its2.toArray i h2 p2
    obtain ⟨m3, Pv3, St3, D3, s3, le3, d3⟩ := drawsAny (prog := X.prog) (w := X.w) hh l i3 c n3 its3.toArray i h3 p3
    refine wpAny_pyNext_zipD3_end S D1 D2 D3 hz hTI hTO s1 s2 s3 le1 le2 le3 ?_ fun h' tk hk => ⟨rfl, I.turnedL (t' := tk) (ch := [z, TI, TO, i1, i2, i3]) (fun c o hb q => hk c o (fun q' => hb (by simp [q'])) (fun q' => hb (by simp [q'])) (fun q' => hb (by simp [q'])) (fun q' => hb (by simp [q'])) (fun q' => hb (by simp [q'])) q) hf⟩
    rcases hend with q | q | q
    · exact .inl (d1 (by simpa [l1] using q))
    · exact .inr (.inl (d2 (by simpa [l2] using q)))
    · exact .inr (.inr (d3 (by simpa [l3] using q)))
  self := fun A i s Q E st h => wpAny_pyIter_zip st.1 h
section
variable {X : Cx} {Wx : WX} {a b c e e2 e3 tg iter elt : Expr} {es ifs : List Expr} {pos p p2 apos cpos spos tpos : Pos} {elts : List Expr} {kk : Nat} {ma mb mc me : M D} {mt mu : M Bool} {mr ml mi : M (List D)} {mq mp : M Sq} {mm : M (D × Env')} {st : Stmt} {sts body : List Stmt} {m m' : MS}
def iZip3 (K : PySem.W.Frag) (ta : TA) : TI := fun σ H R => ta σ H fun vs H1 => ∃ k m l a b c xs ys zs, vs = [.ref a, .ref b, .ref c] ∧ SqB k K H1 a xs ∧ SqB m K H1 b ys ∧ SqB l K H1 c zs ∧ R (Itz3 k m l K a b c) H1
theorem pi_zip3 {ta : TA} (hg : Gl X "zip") (hm : X.mg "zip" = none) (ha : PA X [e, e2, e3] ta)
    (hs : starEach [e, e2, e3] X.env = (false, eval e X.env) :: starEach [e2, e3] X.env := by rfl) (hpl : (backTo pos (starEach [e2, e3] X.env)).any (·.1) = false := by rfl) :
    PI X (.Tuple elts kk tpos) (.Call (.Name "zip" p) [e, e2, e3] [] pos) (iZip3 X.K ta) := by
  refine ⟨fun pins s σ H R I h => ?_⟩
  refine PyProof.Rows.Call_ (ld_blt I hg hm PyProof.Rows.boot_zip (PyProof.Rows.callWith_type1 (thn (ha.run pos pins s σ H _ I h) fun us s1 ⟨vs, H1, I1, r1, q1⟩ => ?_) hs hpl))
  obtain ⟨k, m, l, a, b, c, xs, ys, zs, ex, hqx, hqy, hqz, q⟩ := q1
  subst ex
  cases r1 with
  | cons r rr =>
    cases rr with
    | cons r' rr =>
      cases rr with
      | cons r'' rr =>
        cases rr
        cases r
        cases r'
        cases r''
        obtain ⟨its, rv, p1, b1⟩ := Inv_seq I1 hqx
        obtain ⟨its2, rv2, p2, b2⟩ := Inv_seq I1 hqy
        obtain ⟨its3, rv3, p3, b3⟩ := Inv_seq I1 hqz
        refine zip_begins3 (begB k a its.toArray) (begB m b its2.toArray) (begB l c its3.toArray) p1 p2 p3 fun h' hz hTI hTO g1 g2 g3 hsz hk => wpAny_pyIter_zip hz ?_
        have I2 : Inv X pins σ H1 { s1 with heap := h' } := I1.kept (t' := s1.toks) hk
        have S : ZipSep3 (s1.heap.objs.size + 5) (s1.heap.objs.size + 3) (s1.heap.objs.size + 4) s1.heap.objs.size (s1.heap.objs.size + 1) (s1.heap.objs.size + 2) [s1.heap.objs.size, a] [s1.heap.objs.size + 1, b] [s1.heap.objs.size + 2, c] :=
          zip_sep3 (fun c hc => by simp at hc; rw [hc]; exact b1) (fun c hc => by simp at hc; rw [hc]; exact b2) (fun c hc => by simp at hc; rw [hc]; exact b3)
        refine ⟨s1.heap.objs.size + 5, [s1.heap.objs.size + 5, s1.heap.objs.size + 3, s1.heap.objs.size + 4, s1.heap.objs.size, s1.heap.objs.size + 1, s1.heap.objs.size + 2], _, _, H1, rfl, I2, turn_zip3 S (Nat.ne_of_lt b1) (Nat.ne_of_lt (Nat.lt_succ_of_lt b2)) (Nat.ne_of_lt (Nat.lt_succ_of_lt (Nat.lt_succ_of_lt b3))), ⟨hz, hTI, ⟨_, _, _, hTO⟩, iterB_of g1, iterB_of g2, iterB_of g3⟩, fun c hcm => ?_, q⟩
        have e' : c = s1.heap.objs.size + 5 ∨ c = s1.heap.objs.size + 3 ∨ c = s1.heap.objs.size + 4 ∨ c = s1.heap.objs.size ∨ c = s1.heap.objs.size + 1 ∨ c = s1.heap.objs.size + 2 := by simpa using hcm
        have hle : s1.heap.objs.size ≤ c := by
          rcases e' with z | z | z | z | z | z
          · rw [z]; exact Nat.le_add_right _ _
          · rw [z]; exact Nat.le_add_right _ _
          · rw [z]; exact Nat.le_add_right _ _
          · rw [z]; exact Nat.le_refl _
          · rw [z]; exact Nat.le_add_right _ _
          · rw [z]; exact Nat.le_add_right _ _
        exact I1.fpOk hle (I1.hok.fresh hle)
def zip3D : List D → List D → List D → List D
  | x :: xs, y :: ys, z :: zs => .tup [x, y, z] :: zip3D xs ys zs
  | _, _, _ => []
theorem zip3D_len : ∀ xs ys zs : List D, (zip3D xs ys zs).length = min xs.length (min ys.length zs.length)
  | [], _, _ => by simp [zip3D]
  | _ :: _, [], _ => by simp [zip3D]
  | _ :: _, _ :: _, [] => by simp [zip3D]
  | x :: xs, y :: ys, z :: zs => by
    rw [zip3D, List.length_cons, zip3D_len xs ys zs, List.length_cons, List.length_cons, List.length_cons]
    omega
theorem zip3D_at : ∀ {xs ys zs : List D} {i : Nat} {d : D}, (zip3D xs ys zs)[i]? = some d → ∃ x y z, xs[i]? = some x ∧ ys[i]? = some y ∧ zs[i]? = some z ∧ d = .tup [x, y, z]
  | [], _, _, _, _, e => by simp [zip3D] at e
  | _ :: _, [], _, _, _, e => by simp [zip3D] at e
  | _ :: _, _ :: _, [], _, _, e => by simp [zip3D] at e
  | x :: xs, y :: ys, z :: zs, 0, d, e => by
    simp [zip3D] at e
    exact ⟨x, y, z, rfl, rfl, rfl, e.symm⟩
  | x :: xs, y :: ys, z :: zs, i + 1, d, e => by
    have := zip3D_at (xs := xs) (ys := ys) (zs := zs) (i := i) (d := d) (by simpa [zip3D] using e)
    simpa using this
theorem R.triple {w : Wd} {B : Bz} {H : Hp} {T : Addr} {x y z : D} {u v t : V} (al : ∀ a, B a → H a ≠ none) (n : H T = none) (r1 : R w B H x u) (r2 : R w B H y v) (r3 : R w B H z t) : R w B (upd H T (.tup [u, v, t])) (.tup [x, y, z]) (.ref T) := by
  have kp : Keep B H B (upd H T (.tup [u, v, t])) := fun a o q b => ⟨by rw [upd_ne (ne_of_none q n)]; exact q, b⟩
  rw [R]
  refine ⟨T, _, rfl, fun z => al T z n, upd_same, ?_⟩
  simp only [RL]
  exact ⟨u, _, rfl, R.keep .refl kp _ _ r1, v, _, rfl, R.keep .refl kp _ _ r2, t, _, rfl, R.keep .refl kp _ _ r3, rfl⟩
theorem walks_zip3 {K : PySem.W.Frag} {w : Wd} {B : Bz} {H : Hp} {a b c : Addr} {us vs ts : List V} {xs ys zs : List D} {k m l : Bool} (h1 : ∀ B2 H2, Keep B H B2 H2 → SqB k K H2 a us) (h2 : ∀ B2 H2, Keep B H B2 H2 → SqB m K H2 b vs) (h3 : ∀ B2 H2, Keep B H B2 H2 → SqB l K H2 c ts) (r1 : RL w B H xs us) (r2 : RL w B H ys vs) (r3 : RL w B H zs ts) :
    Walks (Itz3 k m l K a b c) (zip3D xs ys zs) w B H := fun w2 B2 H2 p kp al i => by
  have q1 := h1 B2 H2 kp
  have q2 := h2 B2 H2 kp
  have q3 := h3 B2 H2 kp
  refine ⟨fun z => ⟨us, vs, ts, q1, q2, q3, by rw [r1.len, r2.len, r3.len]; rw [zip3D_len] at z; omega⟩, fun d e => ?_⟩
  obtain ⟨x, y, z, e1, e2, e3, rfl⟩ := zip3D_at e
  obtain ⟨u, f1, g1⟩ := at_ok i r1 e1
  obtain ⟨v, f2, g2⟩ := at_ok i r2 e2
  obtain ⟨t, f3, g3⟩ := at_ok i r3 e3
  refine ⟨⟨us, vs, ts, u, v, t, q1, q2, q3, f1, f2, f3⟩, fun tt H3 yl => ?_⟩
  obtain ⟨T, x', y', z', rfl, n, rfl, f, g, k'⟩ := yl
  have z1 := (f us q1).symm.trans f1
  have z2 := (g vs q2).symm.trans f2
  have z3 := (k' ts q3).symm.trans f3
  cases z1
  cases z2
  cases z3
  exact ⟨(upd_more n).1, (upd_more n).2, R.triple al n (R.keep p kp _ _ g1) (R.keep p kp _ _ g2) (R.keep p kp _ _ g3)⟩
/-- three sequences at once -/
def mZip3 (m : M (List D)) : M (List D) := fun env h => bnd (m env h) fun ds h => match ds with
  | [x, y, z] => (match sqOf x, sqOf y, sqOf z with
    | some p, some q, some r => .ok (zip3D p.2 q.2 r.2) h
    | _, _, _ => .stuck)
  | _ => .stuck
theorem i_zip3 (hm : X.mg "zip" = none) (ha : PA X [e, e2, e3] (tA X.K Wx mr)) (hg : Gl X "zip" := by rfl) (hs : starEach [e, e2, e3] X.env = (false, eval e X.env) :: starEach [e2, e3] X.env := by rfl) (hpl : (backTo pos (starEach [e2, e3] X.env)).any (·.1) = false := by rfl) :
    PI X (.Tuple elts kk tpos) (.Call (.Name "zip" p) [e, e2, e3] [] pos) (tI X.K Wx (mZip3 mr)) :=
  piI (pi_zip3 hg hm ha hs hpl) fun σ H Q ⟨fr, w, P, env, h, F, q⟩ => by
    unfold mZip3 at q
    refine oneI F q fun ds w1 h1 xs H1 F1 r1 g1 q1 => ?_
    rcases ds with _ | ⟨x, _ | ⟨y, _ | ⟨z, _ | ⟨t, r⟩⟩⟩⟩
    · exact q1.elim
    · exact q1.elim
    · exact q1.elim
    · dsimp only at q1
      obtain ⟨v, v', v'', rfl, ra, rb, rc⟩ := r1.three
      cases e1 : sqOf x with
      | none => rw [e1] at q1; exact q1.elim
      | some p =>
        cases e2 : sqOf y with
        | none => rw [e1, e2] at q1; exact q1.elim
        | some q =>
          cases e3 : sqOf z with
          | none => rw [e1, e2, e3] at q1; exact q1.elim
          | some r =>
            rw [e1, e2, e3] at q1
            obtain ⟨a, us, rfl, ra, sa⟩ := RQ.stays ra e1
            obtain ⟨b, vs, rfl, rb, sb⟩ := RQ.stays rb e2
            obtain ⟨c, ts, rfl, rc, sc⟩ := RQ.stays rc e3
            exact ⟨p.1, q.1, r.1, a, b, c, us, vs, ts, rfl, sa _ _ _ .refl, sb _ _ _ .refl, sc _ _ _ .refl, q1 w1 _ H1 g1 F1.rh (walks_zip3 (sa _) (sb _) (sc _) ra rb rc)⟩
    · exact q1.elim
end
end Fx

namespace Fx
open PySem
open L2
/-! ### sorted(set(a tuple of whole numbers)) -/
def insI (x : Int) : List Int → List Int
  | [] => [x]
  | y :: l => if x < y then x :: y :: l else if x = y then y :: l else y :: insI x l
/-- rising, none twice -/
def sortI : List Int → List Int
  | [] => []
  | x :: l => insI x (sortI l)
theorem mem_insI {t x : Int} : ∀ {l : List Int}, x ∈ insI t l ↔ x = t ∨ x ∈ l
  | [] => by simp [insI]
  | y :: l => by
    have ih := mem_insI (t := t) (x := x) (l := l)
    unfold insI
    split
    · simp
    · split
      · rename_i e
        subst e
        simp
      · rw [List.mem_cons, ih, List.mem_cons]
        constructor
        · rintro (a | a | a)
          · exact .inr (.inl a)
          · exact .inl a
          · exact .inr (.inr a)
        · rintro (a | a | a)
          · exact .inr (.inl a)
          · exact .inl a
          · exact .inr (.inr a)
theorem mem_sortI {x : Int} : ∀ {l : List Int}, x ∈ sortI l ↔ x ∈ l
  | [] => by simp [sortI]
  | y :: l => by rw [sortI, mem_insI, mem_sortI, List.mem_cons]
theorem insI_up {t : Int} : ∀ {l : List Int}, l.Pairwise (· < ·) → (insI t l).Pairwise (· < ·)
  | [], _ => by simp [insI]
  | y :: l, h => by
    obtain ⟨h1, h2⟩ := List.pairwise_cons.mp h
    unfold insI
    split
    · rename_i q
      refine List.pairwise_cons.mpr ⟨fun z hz => ?_, h⟩
      rcases List.mem_cons.mp hz with e | e
      · rw [e]; exact q
      · exact Int.lt_trans q (h1 z e)
    · split
      · exact h
      · rename_i q1 q2
        refine List.pairwise_cons.mpr ⟨fun z hz => ?_, insI_up h2⟩
        rcases mem_insI.mp hz with e | e
        · rw [e]; omega
        · exact h1 z e
theorem sortI_up : ∀ l : List Int, (sortI l).Pairwise (· < ·)
  | [] => List.Pairwise.nil
  | x :: l => insI_up (sortI_up l)
theorem upI_unique : ∀ {l m : List Int}, l.Pairwise (· < ·) → m.Pairwise (· < ·) → (∀ x, x ∈ l ↔ x ∈ m) → l = m
  | [], [], _, _, _ => rfl
  | [], y :: m, _, _, h => absurd ((h y).mpr List.mem_cons_self) (by simp)
  | x :: l, [], _, _, h => absurd ((h x).mp List.mem_cons_self) (by simp)
  | x :: l, y :: m, hl, hm, h => by
    obtain ⟨l1, l2⟩ := List.pairwise_cons.mp hl
    obtain ⟨m1, m2⟩ := List.pairwise_cons.mp hm
    have e : x = y := by
      rcases List.mem_cons.mp ((h x).mp List.mem_cons_self) with z | z
      · exact z
      · rcases List.mem_cons.mp ((h y).mpr List.mem_cons_self) with z' | z'
        · exact z'.symm
        · have a := m1 x z
          have b := l1 y z'
          omega
    subst e
    rw [upI_unique l2 m2 fun z => ?_]
    constructor
    · intro hz
      rcases List.mem_cons.mp ((h z).mp (List.mem_cons_of_mem _ hz)) with e | e
      · have := l1 z hz
        omega
      · exact e
    · intro hz
      rcases List.mem_cons.mp ((h z).mpr (List.mem_cons_of_mem _ hz)) with e | e
      · have := m1 z hz
        omega
      · exact e
section
variable {X : Cx} {Wx : WX} {a b c e e2 e3 tg iter elt : Expr} {es ifs : List Expr} {pos p p2 apos cpos spos tpos : Pos} {elts : List Expr} {kk : Nat} {ma mb mc me : M D} {mt mu : M Bool} {mr ml mi : M (List D)} {mq mp : M Sq} {mm : M (D × Env')} {st : Stmt} {sts body : List Stmt} {m m' : MS}
def tSortSetI (K : PySem.W.Frag) (ta : TE) : TE := fun σ H Q => ta σ H fun x H1 => ∃ (l : Addr) (ns : List Int), x = .ref l ∧ SqT K H1 l (ns.map V.int) ∧ ns.length < 64 ∧ ∀ p, H1 p = none → Q (.ref p) (upd H1 p (.lst ((sortI ns).map V.int)))
theorem pe_sortSetI {ta : TE} (hm : X.mg "sorted" = none) (hm2 : X.mg "set" = none) (ha : PE X a ta) (hg : Gl X "sorted") (hg2 : Gl X "set") (hc : X.calm = true) (na : starEach [a] X.env = (false, eval a X.env) :: starEach [] X.env) :
    PE X (.Call (.Name "sorted" p) [.Call (.Name "set" p2) [a] [] cpos] [] pos) (tSortSetI X.K ta) := by
  refine ⟨fun pins s σ H Q I h => ?_⟩
  refine PyProof.Rows.Call_ (ld_blt I hg hm bb_sorted ?_)
  refine PyProof.Rows.callWith_builtin1 (PyProof.Rows.args_cons ?_ rfl) rfl rfl
  refine PyProof.Rows.Call_ (ld_blt I hg2 hm2 bt_set ?_)
  refine PyProof.Rows.callWith_type1 (PyProof.Rows.args_cons (thn (ha.run pins s σ H _ I h) fun v s1 ⟨x, H1, I1, r1, q1⟩ => PyProof.Rows.args_nil ?_) na) na rfl
  obtain ⟨l, ns, rfl, hq, hl, q1⟩ := q1
  cases r1
  obtain ⟨its, r, pl, hz⟩ := I1.tuple hq
  refine call_set_tupI ns (I1.ok.hd hc) (show s1.heap.IsTuple l its.toArray from pl) (by simpa using RZ.intsAre_vals r) (by unfold PySem.scanBound; omega) fun h' tk cn hS hcn hk => ?_
  refine PyProof.Rows.args_nil ?_
  have I2 : Inv X pins σ H1 { s1 with heap := h', toks := tk } := I1.kept hk
  refine sorted_set (s := { s1 with heap := h', toks := tk }) hS (I2.ok.hd hc) (by omega) fun s' p out cc ms k g o hp hg' hi hs hm hl' => ?_
  have en : ms = sortI ns := upI_unique hs (sortI_up ns) fun x => by
    rw [hm x, mem_sortI]
    exact ⟨fun z => of_decide_eq_true z, fun z => decide_eq_true z⟩
  subst en
  have hlen : ((sortI ns).map V.int).length ≤ sizeLine := by rw [List.length_map, hl', sizeLine_eq]; omega
  have hn : H1 p = none := I2.hok.fresh hp
  have J : Inv X pins σ (upd H1 p (.lst ((sortI ns).map V.int))) { ({ s1 with heap := h', toks := tk } : Shared) with heap := s'.heap, gens := s'.gens, drawn := s'.drawn, toks := s'.toks } :=
    I2.call (ch := []) (Un.laid k hp hn) (I2.hok.laid k hp ⟨hlen, out.toList, cc, vals_of_ints hi, hg'⟩) (by rw [g]; exact I2.bare) (fun _ z => nomatch z)
  have e : s' = { ({ s1 with heap := h', toks := tk } : Shared) with heap := s'.heap, gens := s'.gens, drawn := s'.drawn, toks := s'.toks } := by
    cases s'
    cases s1
    cases o
    rfl
  rw [e]
  exact ⟨.ref p, _, J, rfl, q1 p hn⟩
def qSortSetI (q : Sq) : Option D := if q.1 = true then (match intsOf q.2 with
  | some ns => if ns.length < 64 then some (.lst ((sortI ns).map .int)) else none
  | none => none) else none
theorem e_sortSetI (hm : X.mg "sorted" = none) (hm2 : X.mg "set" = none) (ha : PE X a (tQ X.K Wx mq)) (hg : Gl X "sorted" := by rfl) (hg2 : Gl X "set" := by rfl) (hc : X.calm = true := by rfl) (na : starEach [a] X.env = (false, eval a X.env) :: starEach [] X.env := by rfl) :
    PE X (.Call (.Name "sorted" p) [.Call (.Name "set" p2) [a] [] cpos] [] pos) (tE X.K Wx (mQ qSortSetI mq)) :=
  peI (pe_sortSetI hm hm2 ha hg hg2 hc na) fun σ H Q ⟨fr, w, P, env, h, F, q⟩ => one' F q fun qq w2 h2 x H2 F2 r2 _ q2 => by
    obtain ⟨p, vs, rfl, _, hs, rl⟩ := r2
    obtain ⟨bb, ds⟩ := qq
    unfold qSortSetI at q2
    split at q2
    · rename_i zb
      dsimp only at zb q2 rl
      subst zb
      cases e : intsOf ds with
      | none => rw [e] at q2; exact q2.elim
      | some ns =>
        rw [e] at q2
        dsimp only at q2
        split at q2
        · rename_i z
          have ev := ints_ok rl e
          subst ev
          rcases hs with ⟨zz, _⟩ | ⟨_, hs⟩
          · cases zz
          · exact ⟨p, ns, rfl, .of hs, z, fun l hl => lst_fin F2 q2 hl (RL.ints _)⟩
        · exact q2.elim
    · exact q2.elim
end
end Fx

namespace Fx
open PySem
open L2
section
variable {X : Cx} {Wx : WX} {a b c e e2 e3 tg iter elt : Expr} {es ifs : List Expr} {pos p p2 apos cpos spos tpos : Pos} {elts : List Expr} {kk : Nat} {ma mb mc me : M D} {mt mu : M Bool} {mr ml mi : M (List D)} {mq mp : M Sq} {mm : M (D × Env')} {st : Stmt} {sts body : List Stmt} {m m' : MS}
/-! ### tuple(range(a)) -/
def gTRng : D → Option D
  | .int n => if -1000000 ≤ n ∧ n ≤ 1000000 then some (.tup (rangeD 0 n.toNat)) else none
  | _ => none
theorem e_tupRng (hm : X.mg "tuple" = none) (hm2 : X.mg "range" = none) (ha : PE X a (tE X.K Wx ma)) (hg : Gl X "tuple" := by rfl) (hg2 : Gl X "range" := by rfl) (hc : X.calm = true := by rfl)
    (hs : starEach [a] X.env = [(false, eval a X.env)] := by rfl) (hs2 : starEach [Expr.Call (.Name "range" p2) [a] [] cpos] X.env = [(false, eval (Expr.Call (.Name "range" p2) [a] [] cpos) X.env)] := by rfl) :
    PE X (.Call (.Name "tuple" p) [.Call (.Name "range" p2) [a] [] cpos] [] pos) (tE X.K Wx (mUn gTRng ma)) :=
  peI (pe_tupRg hc hg hm (prg_1 hg2 hm2 ha hs) hs2) fun σ H Q ⟨fr, w, P, env, h, F, q⟩ => one' F q fun d w2 h2 x H2 F2 r2 _ q2 => by
    cases d with
    | int n =>
      rw [R] at r2
      rw [show gTRng (.int n) = if -1000000 ≤ n ∧ n ≤ 1000000 then some (.tup (rangeD 0 n.toNat)) else none from rfl] at q2
      split at q2
      · rename_i z
        refine ⟨n, r2, ⟨by omega, by omega, by omega, by omega, by omega⟩, fun l nl => ?_⟩
        have e : rgV 0 n = (List.range n.toNat).map fun (i : Nat) => V.int (0 + i) := by
          unfold rgV
          rw [show (n - 0).toNat = n.toNat by omega]
        rw [e]
        exact tup_fin F2 q2 nl (RL.range 0 n.toNat)
      · exact q2.elim
    | _ => exact q2.elim
end
end Fx

namespace Fx
open PySem
open L2
/-! ### exceptions of one another -/
theorem isa_nil {K : PySem.W.Frag} {xs : List Ex} : Isa K [] xs := fun c hc => by cases hc
theorem isaR_nil {K : PySem.W.Frag} {c : Ex} : ∀ x ∈ ([] : List Ex), PySem.W.exmOne K (.ref (He.ga K c.name)) (.ref (He.ga K x.name)) = some (isa c x) := fun x hx => by cases hx
theorem isaR_cons {K : PySem.W.Frag} {c x : Ex} {xs : List Ex} (h : PySem.W.exmOne K (.ref (He.ga K c.name)) (.ref (He.ga K x.name)) = some (isa c x)) (r : ∀ y ∈ xs, PySem.W.exmOne K (.ref (He.ga K c.name)) (.ref (He.ga K y.name)) = some (isa c y)) :
    ∀ y ∈ x :: xs, PySem.W.exmOne K (.ref (He.ga K c.name)) (.ref (He.ga K y.name)) = some (isa c y) := fun y hy => by
  rcases List.mem_cons.mp hy with e | e
  · rw [e]; exact h
  · exact r y e
theorem isa_cons {K : PySem.W.Frag} {c : Ex} {cs xs : List Ex} (h : ∀ y ∈ xs, PySem.W.exmOne K (.ref (He.ga K c.name)) (.ref (He.ga K y.name)) = some (isa c y)) (r : Isa K cs xs) : Isa K (c :: cs) xs := fun d hd => by
  rcases List.mem_cons.mp hd with e | e
  · rw [e]; exact h
  · exact r d e
theorem Isa.sub {K : PySem.W.Frag} {cs xs ys : List Ex} (h : Isa K cs xs) (hy : ∀ y ∈ ys, y ∈ xs) : Isa K cs ys := fun c hc y q => h c hc y (hy y q)
/-! ### a new list handed back -/
def mRetO (i : Nat) : MS := fun env h => match ownAt env i with
  | some ds => .retN ds h
  | none => .stuck
def mRetL (a : M (List D)) : MS := fun env h => bndS (a env h) env fun ds h => .retN ds h
def callN (N : Nat) (m : MS) : List D → AH → Res (List D) := fun ds h => match m (ds.map .val ++ List.replicate (N - ds.length) .none) h with
  | .retN ds h' => .ok ds h'
  | .exc c _ h' => .exc c h'
  | _ => .stuck
def SpOfN (K : PySem.W.Frag) (n : Nat) (m : List D → AH → Res (List D)) : Sp := fun vs H Q E => ∃ (O : Addr → Prop) (w : Wd) (h : AH) (ds : List D), (∀ a, O a → H a ≠ none ∧ ¬ w.W a) ∧ RelH K w (Bu O N0 w) h H ∧ RL w (Bu O N0 w) H ds vs ∧ ds.length = n ∧
  match m ds h with
  | .ok es h' => ∀ w' p vs H', Grow w H w' H' → RelH K w' (Bu O (fun a => a = p) w') h' H' → H p = none → H' p = some (.lst vs) → ¬ w'.W p → RL w' (Bu O (fun a => a = p) w') H' es vs → Q (.ref p) H'
  | .exc c h' => ∀ w' H', Grow w H w' H' → RelH K w' (Bu O N0 w') h' H' → E (.ref (He.ga K c.name)) none H'
  | .stuck => False
structure GoodN (P : Program) (w : World) (K : PySem.W.Frag) (mg : Str → Option Value) (base : Heap) (x : Str) (k n : Nat) (m : List D → AH → Res (List D)) : Prop where
  ex : ∃ f fd ps, FnOk P w K mg base (L2.CX P w) k f fd ps (SpOfN K n m) ∧ mg x = some (.ref f) ∧ PySem.W.keepIn K (.ref f) = true ∧ ∀ (s : Shared) (us : List Value), us.length = ps.length → BindsTo s fd ⟨us, []⟩ (ps.zip us)
theorem goodN_of {P : Program} {w : World} {K : PySem.W.Frag} {mg : Str → Option Value} {base : Heap} {x qual : Str} {st : Stmt} {f : Addr} {fd : FuncData} {N ps : List Str} {k n : Nat} {m : MS}
    (F : FunD K x qual (defArgs st) (defBody st) (defScope st) [] [] f fd) (hm : mg x = some (.ref f)) (hb : ∀ (s : Shared) (us : List Value), us.length = ps.length → BindsTo s fd ⟨us, []⟩ (ps.zip us)) (S : FnScope N ps (defScope st)) (hn : ps.length = n) (hN : n ≤ N.length)
    (hbody : ∀ (cdv : Value) (A : Around) (outer : List Env) (s : Shared) (H : Hp) (E : XK), Room k (A.deeper (PyProof.Rows.envOfC qual (defScope st) s.heap.objs.size f cdv)) →
      PSs (cxOf (L2.CX P w) P w K mg base N qual (defScope st) f cdv A outer s H E) (defBody st) (tS K (fun cls d _ H => E cls d H) m)) :
    GoodN P w K mg base x (k + 1) n (callN N.length m) := by
  refine ⟨f, fd, ps, ?_, hm, F.kp, hb⟩
  obtain ⟨oc, od, dV, kV, doc, pm, an, cdv, ct, osl, rfl, lk, hcd, _, _⟩ := F.ex
  refine fn_of lk hcd S (fun vs H Q E h => ?_) fun A outer s H vs Q E hr hsp => ?_
  · obtain ⟨O, w', h, ds, _, _, rl, e, _⟩ := h
    rw [rl.len, e, hn]
  · obtain ⟨O, w0, h0, ds, ho, rh, rl, e, q⟩ := hsp
    refine ⟨_, hbody cdv A outer s H E hr, ⟨w0, H, O⟩, w0, N0, ds.map .val ++ List.replicate (N.length - ds.length) .none, h0, ⟨rh, .refl, ho, fun _ z => z.elim, ?_, fun i j es fs p e1 => absurd e1 start_no, ?_⟩, ?_⟩
    · unfold L2.start
      rw [rl.len]
      exact start_at _ rl
    · unfold L2.start
      have := rl.len
      simp [this]
    · unfold callN at q
      have sb : ∀ {P' : Addr → Prop} {w' : Wd} a, Bu O N0 w' a → Bu O P' w' a := fun a z => z.elim .inl fun z => z.elim False.elim fun z => .inr (.inr z)
      revert q
      cases m (ds.map .val ++ List.replicate (N.length - ds.length) .none) h0 with
      | next env' h' => exact fun q => q.elim
      | ret d h' => exact fun q => q.elim
      | retN es h' => exact id
      | exc c env' h' => exact fun q w' P' σ' H' F' k => q w' H' F'.gr (F'.rh.keep (fun _ _ e _ => e) (Keep.sub sb))
      | brk env' h' => exact fun q => q.elim
      | cnt env' h' => exact fun q => q.elim
      | stuck => exact fun q => q.elim
def mCallL (m : List D → AH → Res (List D)) (a : M (List D)) : M (List D) := fun env h => bnd (a env h) m
section
variable {X : Cx} {Wx : WX} {a b c e e2 e3 tg iter elt : Expr} {es ifs : List Expr} {pos p p2 apos cpos spos tpos : Pos} {elts : List Expr} {kk : Nat} {ma mb mc me : M D} {mt mu : M Bool} {mr ml mi : M (List D)} {mq mp : M Sq} {mm : M (D × Env')} {st : Stmt} {sts body : List Stmt} {m m' : MS}
theorem s_retL (he : PE X e (tL X.K Wx ml)) : PS X (.Return (some e) pos) (tS X.K Wx (mRetL ml)) :=
  psI (ps_ret he) fun D σ H ⟨fr, w, P, env, h, F, q⟩ => ⟨fr, w, P, env, h, F, by
    unfold mRetL at q
    have z := sX.bndL F q
    revert z
    cases ml env h with
    | ok ds h' =>
      intro z w' p vs H' g rh n e nw rl
      obtain ⟨ds', p', vs', w1, h1, e', rh', g', n', e1, nw', rl', q'⟩ := z w' p vs H' g rh n e nw rl
      cases e'
      have sb : ∀ a, Bu fr.O (fun a => a = p) w1 a → Bu fr.O (fun a => P a ∨ a = p) w1 a := fun a z => z.elim .inl fun z => z.elim (fun z => .inr (.inl (.inr z))) fun z => .inr (.inr z)
      exact q' w1 p vs' H' (F.gr.trans g') (rh'.keep (fun _ _ e _ => e) (Keep.sub sb)) (F.gr.all p n') e1 nw' (RL.keep .refl (Keep.sub sb) _ _ rl')
    | exc c h' => exact id
    | stuck => exact id⟩
theorem s_retO (i : Nat) {x : Str} {px : Pos} (hN : X.N[i]? = some x := by rfl) (hv : Vis X.env.scope x := by first | exact Or.inl rfl | exact Or.inr (Or.inl rfl) | exact Or.inr (Or.inr rfl)) (hd : (x == ("__debug__" : Str)) = false := by decide) (hcd : (x == ("__classdict__" : Str)) = false := by decide) : PS X (.Return (some (.Name x px)) pos) (tS X.K Wx (mRetO i)) :=
  psI (ps_ret (pe_var hN hv hd hcd)) fun D σ H ⟨fr, w, P, env, h, F, q⟩ => by
    unfold mRetO at q
    cases eo : ownAt env i with
    | none => rw [eo] at q; exact q.elim
    | some ds =>
      rw [eo] at q
      obtain ⟨p, vs, e1, hp, e2, rl⟩ := F.sl i _ (ownAt_ok eo)
      obtain ⟨p1, p2, p3⟩ := F.pp p hp
      have sb : ∀ a, Bu fr.O (fun a => a = p) w a → Bu fr.O P w a := fun a z => z.elim .inl fun z => z.elim (fun z => .inr (.inl (by rw [z]; exact hp))) fun z => .inr (.inr z)
      exact ⟨.ref p, e1, q w p vs H F.gr (F.rh.keep (fun _ _ e _ => e) (Keep.sub sb)) p1 e2 p3 (RL.keep .refl (Keep.sub sb) _ _ rl)⟩
theorem l_call {x : Str} {p : Pos} {k n : Nat} {m : List D → AH → Res (List D)} (G : GoodN X.prog X.w X.K X.mg X.base x k n m) (hr : Room k X.A) (tk : Takes X Wx) (hn : ∀ env h ds h', mr env h = .ok ds h' → ds.length = n) (ha : PA X (e :: es) (tA X.K Wx mr)) (hg : Gl X x := by rfl)
    (hdb : (x == ("__debug__" : Str)) = false := by decide) (he : starEach (e :: es) X.env = (false, eval e X.env) :: starEach es X.env := by rfl) (hpl : (backTo pos (starEach es X.env)).any (·.1) = false := by rfl) :
    PE X (.Call (.Name x p) (e :: es) [] pos) (tL X.K Wx (mCallL m mr)) := by
  obtain ⟨f, fd, ps, F, hm, hk, hb'⟩ := G.ex
  have hb : Binds X.K fd ps [] := fun s us _ hl => by
    rw [List.append_nil] at hl ⊢
    exact hb' s us hl
  refine peI (pe_callS (E := WE Wx) F hr hg hm hk hb (fun σ => passAt tk σ) ha hdb he hpl) fun σ H Q ⟨fr, w, P, env, h, F, q⟩ => ?_
  have q' : tLx X.K Wx fr w P σ H (bnd (mr env h) fun ds h => if ds.length = n then m ds h else .stuck) Q := by
    have e : mCallL m mr env h = bnd (mr env h) fun ds h => if ds.length = n then m ds h else .stuck := by
      unfold mCallL
      cases z : mr env h with
      | ok ds h' => show m ds h' = if ds.length = n then m ds h' else .stuck; rw [if_pos (hn _ _ _ _ z)]
      | exc c h' => rfl
      | stuck => rfl
    rw [← e]
    exact q
  refine oneL F q' fun ds w2 h2 xs H2 F2 r2 _ q2 => ?_
  split at q2
  · rename_i z
    refine ⟨fun a => fr.O a ∨ P a, w2, h2, ds, fun a o => ?_, F2.rh.keep (fun _ _ e _ => e) (Keep.sub bu_in), RL.keep .refl (Keep.sub bu_in) _ _ r2, z, ?_⟩
    · rcases o with o | o
      · exact F2.ow o
      · exact (F2.pp a o).2
    · revert q2
      cases m ds h2 with
      | ok d h' =>
        intro q2 w' p vs H' g rh n e nw r
        have sb : ∀ a, Bu fr.O (fun a => P a ∨ a = p) w' a → Bu (fun a => fr.O a ∨ P a) (fun a => a = p) w' a := fun a z => z.elim (fun z => .inl (.inl z)) fun z => z.elim (fun z => z.elim (fun z => .inl (.inr z)) fun z => .inr (.inl z)) fun z => .inr (.inr z)
        exact q2 w' p vs H' g (rh.keep (fun _ _ e _ => e) (Keep.sub sb)) n e nw (RL.keep .refl (Keep.sub sb) _ _ r)
      | exc c h' => exact fun q2 w' H' g rh => q2 w' H' g (rh.keep (fun _ _ e _ => e) (Keep.sub bu_out))
      | stuck => exact fun q2 => q2
  · exact q2.elim
end
end Fx

namespace Fx
open PySem
open L2
section
open PySem.Spec PyProof.Rows
variable {X : Cx}
theorem get_list : PGet X (rIxL X.K) := by
  intro pins s σ H x y v u Q I rx ry h
  obtain ⟨p, xs, i, z, rfl, rfl, hq, he, q⟩ := h
  cases rx
  obtain ⟨t, rfl⟩ := ry
  obtain ⟨its, r, pl, hz⟩ := I.list hq
  obtain ⟨j, h1, h2, h3, h4, h5⟩ := atI_get he
  obtain ⟨w, ew, rw'⟩ := r.get h2
  have hl := r.length
  have hn := line63
  have fin : EP X pins σ Q w s := ⟨z, H, I, rw', q⟩
  by_cases h0 : 0 ≤ i
  · have hj : i.toNat = j := by
      rw [seqIndex_of h0 h5] at h1
      exact Option.some.inj h1
    exact wpAny_getItem_list pl.isList h0 (by omega) (by rw [hj]; simpa using ew) fin
  · have hj : (i + (its.toArray.size : Int)).toNat = j := by
      rw [seqIndex_neg (by omega) h4] at h1
      rw [List.size_toArray, ← hl]
      exact Option.some.inj h1
    exact wpAny_getItem_list_neg pl.isList (by omega) (by rw [List.size_toArray] <;> omega) (by omega) (by rw [hj]; simpa using ew) fin
end
/-- x[k] += a -/
def mAugS (i : Nat) (k : M D) (f : Int → Int → Int) (a : M D) : MS := fun env h => match ownAt env i with
  | none => .stuck
  | some ds => bndS (k env h) env fun kk h => match kk with
    | .int j => (match atI ds j, ixN ds.length j with
      | some (.int u), some l => bndS (a env h) env fun d h => (match d with
        | .int v => .next (env.set i (.own (ds.set l (.int (f u v))))) h
        | _ => .stuck)
      | _, _ => .stuck)
    | _ => .stuck
section
variable {X : Cx} {Wx : WX} {a b c e e2 e3 tg iter elt : Expr} {es ifs : List Expr} {pos p p2 apos cpos spos tpos : Pos} {elts : List Expr} {kk : Nat} {ma mb mc me : M D} {mt mu : M Bool} {mr ml mi : M (List D)} {mq mp : M Sq} {mm : M (D × Env')} {st : Stmt} {sts body : List Stmt} {m m' : MS}
theorem s_augS (i : Nat) {x : Str} {px : Pos} {k : Expr} {op : Operator} {f : Int → Int → Int} (hk : PE X k (tE X.K Wx mb)) (he : PE X e (tE X.K Wx ma)) (ho : PIp X op (ipI f)) (hN : X.N[i]? = some x := by rfl) (hv : Vis X.env.scope x := by first | exact Or.inl rfl | exact Or.inr (Or.inl rfl) | exact Or.inr (Or.inr rfl)) (hd : (x == ("__debug__" : Str)) = false := by decide)
    (hcd : (x == ("__classdict__" : Str)) = false := by decide)
    (ha : ∀ ov iv new, augStore k ov iv new = (do holding [new, ov, iv] (setItem ov iv new); release [new, ov, iv] []; pure .next) := by intros; rfl) : PS X (.AugAssign (.Subscript (.Name x px) k tpos) op e pos) (tS X.K Wx (mAugS i mb f ma)) := by
  refine psI (ps_augS (pe_var hN hv hd hcd) hk get_list he ho set_list ha) fun D σ H ⟨fr, w, P, env, h, F, q⟩ => ?_
  unfold mAugS at q
  cases eo : ownAt env i with
  | none => rw [eo] at q; exact q.elim
  | some ds =>
    rw [eo] at q
    dsimp only at q
    have e0 := ownAt_ok eo
    obtain ⟨p0, vs, e1, hp, e2, rl⟩ := own_recv F e0
    refine ⟨.ref p0, e1, ?_⟩
    refine oneS F q fun kv w1 h1 y H1 F1 r1 g1 q1 => ?_
    cases kv with
    | int j =>
      rw [R] at r1
      subst r1
      dsimp only at q1
      cases ea : atI ds j with
      | none => rw [ea] at q1; exact q1.elim
      | some du =>
        cases du with
        | int u =>
          cases ej : ixN ds.length j with
          | none => rw [ea, ej] at q1; exact q1.elim
          | some l =>
            rw [ea, ej] at q1
            obtain ⟨p', vs', e1', hp', e2', rl'⟩ := own_recv F1 e0
            rw [e1] at e1'
            cases e1'
            have eat : ds[l]? = some (.int u) := by
              unfold atI at ea
              rw [ej] at ea
              exact ea
            obtain ⟨v, ev, rv⟩ := at_ok l rl' eat
            rw [R] at rv
            subst rv
            refine ⟨p0, vs', j, .int u, rfl, rfl, .of e2', ?_, ?_⟩
            · unfold atI
              rw [rl'.len, ej]
              exact ev
            · dsimp only at q1
              refine oneS F1 q1 fun d w2 h2 z H2 F2 r2 g2 q2 => ?_
              cases d with
              | int v' =>
                rw [R] at r2
                subst r2
                obtain ⟨p', vs2, e1', hp', e2', rl2⟩ := own_recv F2 e0
                rw [e1] at e1'
                cases e1'
                refine ⟨u, v', rfl, rfl, p0, vs2, j, l, rfl, rfl, e2', by rw [rl2.len]; exact ej, ?_⟩
                obtain ⟨F3, k⟩ := F2.put (es := ds.set l (.int (f u v'))) (us := vs2.set l (.int (f u v'))) e0 e1 (RL.set (by rw [R]) l rl2)
                exact sX.go F3 k q2
              | _ => exact q2.elim
        | _ => rw [ea] at q1; exact q1.elim
    | _ => exact q1.elim
/-- a.count(b), whole numbers -/
def gCount : D → D → Option D
  | .lst ds, .int k => (intsOf ds).map fun ns => .int (ns.count k : Nat)
  | _, _ => none
def mCount (a b : M D) : M D := fun env h => bnd (a env h) fun x h => match x with
  | .lst ds => bnd (b env h) fun y h => lift (gCount (.lst ds) y) h
  | _ => .stuck
theorem e_count (ha : PE X a (tE X.K Wx ma)) (hb : PE X b (tE X.K Wx mb)) (hbase : attributeBase a "count" X.env (eval a X.env) = eval a X.env := by rfl)
    (hfew : ((backTo cpos (starEach [b] X.env)).all (fun x => !x.1) && (backToKw cpos (keywordEach [] X.env)).all (fun x => x.1.isSome) && decide ([b].length + ([] : List Keyword).length + (if ([] : List Keyword).isEmpty then 0 else 1) < 30)) = true := by rfl)
    (hline : (apos.endLine == cpos.line) = true := by rfl) (hs : starEach (b :: []) X.env = (false, eval b X.env) :: starEach [] X.env := by rfl) (hplain : (backTo cpos (starEach [] X.env)).any (·.1) = false := by rfl) :
    PE X (.Call (.Attribute a "count" apos) [b] [] cpos) (tE X.K Wx (mCount ma mb)) :=
  peI (pe_bm PySem.F.plainAttrs_list PySem.F.slot_list_count PySem.F.type_list_count mt_lcount ha (pa_cons hb pa_nil hs) hbase hfew hline hs hplain) fun σ H Q ⟨fr, w, P, env, h, F, q⟩ => by
    unfold mCount at q
    refine one' F q fun d w1 h1 x H1 F1 r1 g1 q1 => ?_
    cases d with
    | lst ds =>
      dsimp only at q1
      have r1' := r1
      rw [R] at r1'
      obtain ⟨p, vs, rfl, nb, hp, rl⟩ := r1'
      refine ⟨.inl ⟨rfl, vs, .of hp⟩, ?_⟩
      refine one' F1 q1 fun k w2 h2 y H2 F2 r2 g2 q2 => ?_
      cases k with
      | int k =>
        rw [R] at r2
        subst r2
        have r3 := R.keep g2.rho g2.keepB _ _ r1
        rw [R] at r3
        obtain ⟨p', vs', e', nb', hp', rl'⟩ := r3
        cases e'
        cases ei : intsOf ds with
        | none =>
          unfold gCount at q2
          dsimp only at q2
          rw [ei] at q2
          exact q2.elim
        | some ns =>
          unfold gCount at q2
          dsimp only at q2
          rw [ei] at q2
          have ev := ints_ok rl' ei
          subst ev
          exact ⟨p, ns, k, rfl, rfl, .of hp', tX.fin F2 q2 (by rw [R])⟩
      | _ => exact q2.elim
    | _ => exact q1.elim
end
end Fx

namespace Fx
open PySem L2
/-! ### the head's hook: no list among the written objects -/
def noLst (K : PySem.W.Frag) : Bool := K.all fun p => match p.2.cls with
  | .type n => n != "list"
  | _ => true
theorem look_mem : ∀ {K : List (Addr × Obj)} {a : Addr} {o : Obj}, K.lookup a = some o → (a, o) ∈ K
  | [], _, _, e => by cases e
  | (b, q) :: K, a, o, e => by
    rw [List.lookup_cons] at e
    split at e
    · rename_i z
      cases e
      rw [eq_of_beq z]
      exact List.mem_cons_self
    · exact List.mem_cons_of_mem _ (look_mem e)
theorem noLst_ok {K : PySem.W.Frag} {a : Addr} {o : Obj} (h : noLst K = true) (e : K.lookup a = some o) : o.cls ≠ .type "list" := by
  intro z
  have this := List.all_eq_true.mp h _ (look_mem e)
  dsimp only at this
  rw [z] at this
  revert this
  decide
def obL (n : Nat) (fa : List He.Fa) (fn : List He.DefD) (g : Addr → Option Obj) : He.AlD × Bool := (He.obsD fa fn (He.frG g (He.asD g n)), noLst (He.frG g (He.asD g n)))
def hookL (n : Nat) (fa : List He.Fa) (fn : List He.DefD) : PySem.W.Hook where
  α := He.AlD × Bool
  obs := fun s => obL n fa fn s.heap.get?
  val := fun _ => (He.valD fn, true)
  says := fun _ h => ∃ K : PySem.W.Frag, K.In h ∧ He.SaysD fa fn K ∧ noLst K = true
  of := fun _ _ e => ⟨_, He.frG_in, congrArg Prod.fst e, congrArg Prod.snd e⟩
  keeps := fun _ _ _ ⟨K, hK, c⟩ k => ⟨K, PySem.W.Frag.In.keeps hK k, c⟩
theorem obL_eq {n : Nat} {fa : List He.Fa} {fn : List He.DefD} {g : Addr → Option Obj} {s : Shared} (h : ∀ a, g a = s.heap.get? a) : obL n fa fn g = (hookL n fa fn).obs s := by
  have e : g = s.heap.get? := funext h
  rw [e] <;> rfl
theorem walk_fx {l : PySem.W.OpenLaw} {n k : Nat} {q : Program} {loose : List Str} {XP : (Str → Option Value) → Heap → Prop} {YP : World → Heap → Prop} {d : DefRec} {m : List D → AH → Res D}
    (hn : l.most = some n) (hn2 : n ≤ sizeLine) (hdf : d.params.defaults = []) (hr : Room k callerA) {nm : Str} (hd : d.name = nm)
    (F : ∀ (w : World) (mg : Str → Option Value) (h : Heap), YP w h → h.Ns mainGlobals mg → ∃ (K : PySem.W.Frag) (fd : FuncData) (x : Str), K.In h ∧ noLst K = true ∧ mg nm = some (.ref (He.ga K nm)) ∧ (∀ (s : Shared) (us : List Value), us.length = 1 → BindsTo s fd ⟨us, []⟩ ([x].zip us)) ∧
      ∀ base, FnOk l.prog w K mg base (L2.CX l.prog w) k (He.ga K nm) fd [x] (SpOf K 1 m))
    (hm : ∀ ns : List Int, ns.length ≤ n → ∃ h, m [.scr ns] [] = .ok (.bl true) h) :
    PySem.W.WalkO q loose XP YP l.row.toRowW d [] (fun f vs => PySem.call f vs) := by
  refine Att.attach_call hn hdf fun w s₀ s₁ mg mb fa o pm cd doc a vs ns G Y ho hd' hcd hmg hobj hints hlen hg => ?_
  obtain ⟨K, fd, x, KX, nl, e, hb, hF⟩ := F w mg _ Y G.T.g
  rw [hd] at hmg
  have ef := hmg.symm.trans e
  cases ef
  refine law_call KX G.T.g G.T.b G.T.builtins G.T.nolimit hg hobj hints (Nat.le_trans hlen hn2) hr (fun base _ _ => hF base) (fun s u => hb s [u] rfl) (fun H hO hS => ?_) fun H e s' => ?_
  · obtain ⟨h', em⟩ := hm ns hlen
    rcases hS with hS | ⟨o, its, n, lk, ec, _⟩
    · refine ⟨N0, ⟨[], N0⟩, [], [.scr ns], fun a z => z.elim, ?_, ?_, rfl, ?_⟩
      · exact ⟨rfl, List.nodup_nil, fun a z => z.elim, fun n ai e => by simp at e, fun n m i j ai bi f g ds es p a b dx dy us vs e1 => by simp at e1⟩
      · rw [RL]
        refine ⟨_, _, rfl, ?_, by rw [RL]⟩
        rw [R]
        exact ⟨a, rfl, fun z => z.elim id fun z => z.elim id id, hS⟩
      · rw [em]
        exact fun w' v H' g rh r => by rw [R] at r; exact r
    · exact absurd ec (noLst_ok nl lk)
  · rintro ⟨a, B, H', cls, d, _, _, _, _, _, _, _, z⟩
    exact z
end Fx

namespace Fx
open PySem
open L2
theorem a_mVar {i : Nat} {env : Env'} {h : AH} : mVar i env h = match env[i]? with | some (.val d) => .ok d h | _ => .stuck := id rfl
theorem a_mC {d : D} {env : Env'} {h : AH} : mC d env h = .ok d h := id rfl
theorem a_mUn {g : D → Option D} {a : M D} {env : Env'} {h : AH} : mUn g a env h = bnd (a env h) fun x h => lift (g x) h := id rfl
theorem a_mBin {g : D → D → Option D} {a b : M D} {env : Env'} {h : AH} : mBin g a b env h = bnd (a env h) fun x h => bnd (b env h) fun y h => lift (g x y) h := id rfl
theorem a_mIf {α : Type} {t : M Bool} {a b : M α} {env : Env'} {h : AH} : mIf t a b env h = bnd (t env h) fun c h => if c = true then a env h else b env h := id rfl
theorem a_mAnd {a b : M Bool} {env : Env'} {h : AH} : mAnd a b env h = bnd (a env h) fun c h => if c = true then b env h else .ok false h := id rfl
theorem a_mOr {a b : M Bool} {env : Env'} {h : AH} : mOr a b env h = bnd (a env h) fun c h => if c = true then .ok true h else b env h := id rfl
theorem a_mNot {a : M Bool} {env : Env'} {h : AH} : mNot a env h = bnd (a env h) fun c h => .ok (!c) h := id rfl
theorem a_mNil  {env : Env'} {h : AH} : mNil env h = .ok [] h := id rfl
theorem a_mCons {a : M D} {r : M (List D)} {env : Env'} {h : AH} : mCons a r env h = bnd (a env h) fun x h => bnd (r env h) fun xs h => .ok (x :: xs) h := id rfl
theorem a_mCallF {f : List D → AH → Res D} {a : M (List D)} {env : Env'} {h : AH} : mCallF f a env h = bnd (a env h) f := id rfl
theorem a_mFn {f : List D → Option D} {a : M (List D)} {env : Env'} {h : AH} : mFn f a env h = bnd (a env h) fun xs h => lift (f xs) h := id rfl
theorem a_mTst {g : D → Option Bool} {a : M D} {env : Env'} {h : AH} : mTst g a env h = bnd (a env h) fun x h => lift (g x) h := id rfl
theorem a_mVal {a : M Bool} {env : Env'} {h : AH} : mVal a env h = bnd (a env h) fun c h => .ok (.bl c) h := id rfl
theorem a_mChain {g g' : D → D → Option Bool} {a b c : M D} {env : Env'} {h : AH} : mChain g g' a b c env h = bnd (a env h) fun x h => bnd (b env h) fun y h => bnd (lift (g x y) h) fun k h => if k = true then bnd (c env h) fun z h => lift (g' y z) h else .ok false h := id rfl
theorem a_mCmp {g : D → D → Option Bool} {a b : M D} {env : Env'} {h : AH} : mCmp g a b env h = bnd (a env h) fun x h => bnd (b env h) fun y h => lift (g x y) h := id rfl
theorem a_mSq {a : M D} {env : Env'} {h : AH} : mSq a env h = bnd (a env h) fun x h => lift (sqOf x) h := id rfl
theorem a_mOwn {i : Nat} {env : Env'} {h : AH} : mOwn i env h = match env[i]? with | some (.own ds) => .ok (false, ds) h | _ => .stuck := id rfl
theorem a_mQ {α : Type} {g : Sq → Option α} {a : M Sq} {env : Env'} {h : AH} : mQ g a env h = bnd (a env h) fun x h => lift (g x) h := id rfl
theorem a_mQ2 {α : Type} {g : Sq → D → Option α} {a : M Sq} {b : M D} {env : Env'} {h : AH} : mQ2 g a b env h = bnd (a env h) fun x h => bnd (b env h) fun y h => lift (g x y) h := id rfl
theorem a_m2Q {α : Type} {g : D → Sq → Option α} {a : M D} {b : M Sq} {env : Env'} {h : AH} : m2Q g a b env h = bnd (a env h) fun x h => bnd (b env h) fun y h => lift (g x y) h := id rfl
theorem a_mLst {m : M (List D)} {env : Env'} {h : AH} : mLst m env h = bnd (m env h) fun ds h => .ok (.lst ds) h := id rfl
theorem a_mDisp {m : M (List D)} {env : Env'} {h : AH} : mDisp m env h = bnd (m env h) fun ds h => lift (if ds.length ≤ 1000 then some ds else none) h := id rfl
theorem a_mTup {m : M (List D)} {env : Env'} {h : AH} : mTup m env h = bnd (m env h) fun ds h => lift (if ds.length ≤ 1000 then some (.tup ds) else none) h := id rfl
theorem a_mRepL {m : M (List D)} {b : M D} {env : Env'} {h : AH} : mRepL m b env h = bnd (m env h) fun xs h => bnd (b env h) fun k h => lift (gRep xs k) h := id rfl
theorem a_mSeq {a b : MS} {env : Env'} {h : AH} : mSeq a b env h = match a env h with | .next env' h' => b env' h' | r => r := id rfl
theorem a_mSkip  {env : Env'} {h : AH} : mSkip env h = .next env h := id rfl
theorem a_mDrop {α : Type} {a : M α} {env : Env'} {h : AH} : mDrop a env h = bndS (a env h) env fun _ h => .next env h := id rfl
theorem a_mRet {a : M D} {env : Env'} {h : AH} : mRet a env h = bndS (a env h) env fun d h => .ret d h := id rfl
theorem a_mRetN  {env : Env'} {h : AH} : mRetN env h = .ret .non h := id rfl
theorem a_mIfS {t : M Bool} {a b : MS} {env : Env'} {h : AH} : mIfS t a b env h = bndS (t env h) env fun c h => if c = true then a env h else b env h := id rfl
theorem a_mSet {i : Nat} {a : M D} {env : Env'} {h : AH} : mSet i a env h = bndS (a env h) env fun d h => .next (env.set i (.val d)) h := id rfl
theorem a_mSetL {i : Nat} {a : M (List D)} {env : Env'} {h : AH} : mSetL i a env h = bndS (a env h) env fun ds h => .next (env.set i (.own ds)) h := id rfl
theorem a_mRaise {c : Ex} {env : Env'} {h : AH} : mRaise c env h = .exc c env h := id rfl
theorem a_mNever  {env : Env'} {h : AH} : mNever env h = .stuck := id rfl
theorem a_mFor {it : M (List D)} {as : D → Env' → Option Env'} {body : MS} {env : Env'} {h : AH} : mFor it as body env h = bndS (it env h) env fun ds h => loopF as body ds env h := id rfl
theorem a_mLc {it : M (List D)} {vs : List Nat} {as : D → Env' → Option Env'} {t : M Bool} {e : M D} {env : Env'} {h : AH} : mLc it vs as t e env h = bnd (it env h) fun ds h => if ds.length ≤ sizeLine then lcLoop as t e ds (wipeE env vs) h else .stuck := id rfl
theorem a_mIt {g : D → Option (List D)} {m : M D} {env : Env'} {h : AH} : mIt g m env h = bnd (m env h) fun d h => lift (g d) h := id rfl
theorem a_mFnL {g : List D → Option (List D)} {m : M (List D)} {env : Env'} {h : AH} : mFnL g m env h = bnd (m env h) fun ds h => lift (g ds) h := id rfl
theorem a_mEnum {m : M D} {env : Env'} {h : AH} : mEnum m env h = bnd (m env h) fun d h => lift ((seqItems d).map enumD) h := id rfl
theorem a_mSlc {a : M Sq} {lo hi : M (Option Int)} {env : Env'} {h : AH} : mSlc a lo hi env h = bnd (a env h) fun q h => bnd (lo env h) fun l h => bnd (hi env h) fun u h => .ok (ofSq (q.1, cutD q.2 l u)) h := id rfl
theorem a_mLRng {a : M D} {env : Env'} {h : AH} : mLRng a env h = bnd (a env h) fun d h => lift (gLRng d) h := id rfl
theorem a_mLOf {a : M Sq} {env : Env'} {h : AH} : mLOf a env h = bnd (a env h) fun q h => .ok q.2 h := id rfl
theorem a_oNone  {env : Env'} {h : AH} : oNone env h = .ok none h := id rfl
theorem a_oSome {a : M D} {env : Env'} {h : AH} : oSome a env h = bnd (a env h) fun d h => match d with | .int i => .ok (some i) h | _ => .stuck := id rfl
theorem a_asN {i : Nat} {d : D} {env : Env'} : asN i d env = some (env.set i (.val d)) := id rfl
theorem a_asT {is : List Nat} {ds : List D} {env : Env'} : asT is (.tup ds) env = asL is ds env := id rfl
theorem a_mFrz {i : Nat} {m : MS} {env : Env'} {h : AH} : mFrz i m env h = match env[i]? with | some (.own ds) => m (env.set i (.val (.lst ds))) h | _ => .stuck := id rfl
theorem a_mApp {i : Nat} {a : M D} {env : Env'} {h : AH} : mApp i a env h = match ownAt env i with | none => .stuck | some ds => bndS (a env h) env fun d h => if ds.length < sizeLine then .next (env.set i (.own (ds ++ [d]))) h else .stuck := id rfl
theorem a_mExt {i : Nat} {a : M D} {env : Env'} {h : AH} : mExt i a env h = match ownAt env i with | none => .stuck | some ds => bndS (a env h) env fun d h => match d with | .lst es => if ds.length + es.length ≤ sizeLine then .next (env.set i (.own (ds ++ es))) h else .stuck | _ => .stuck := id rfl
theorem a_mPopAt {i : Nat} {a : M D} {env : Env'} {h : AH} : mPopAt i a env h = match ownAt env i with | none => .stuck | some ds => bnd (a env h) fun k h => match k with | .int j => if -1000000 ≤ j ∧ j ≤ 1000000 then (match seqIndex? j ds.length with | some l => (match ds[l]? with | some d => .ok (d, env.set i (.own (ds.eraseIdx l))) h | none => .stuck) | none => .stuck) else .stuck | _ => .stuck := id rfl
theorem a_mPop {i : Nat} {env : Env'} {h : AH} : mPop i env h = match ownAt env i with | none => .stuck | some ds => match ds[ds.length - 1]? with | some d => .ok (d, env.set i (.own ds.dropLast)) h | none => .stuck := id rfl
theorem a_mSetM {i : Nat} {a : M (D × Env')} {env : Env'} {h : AH} : mSetM i a env h = bndM (a env h) env fun d env h => .next (env.set i (.val d)) h := id rfl
theorem a_mSetT {as : D → Env' → Option Env'} {a : M D} {env : Env'} {h : AH} : mSetT as a env h = bndS (a env h) env fun d h => match as d env with | some env' => .next env' h | none => .stuck := id rfl
theorem a_mSetTM {as : D → Env' → Option Env'} {a : M (D × Env')} {env : Env'} {h : AH} : mSetTM as a env h = bndM (a env h) env fun d env h => match as d env with | some env' => .next env' h | none => .stuck := id rfl
theorem a_mAppM {i : Nat} {a : M (D × Env')} {env : Env'} {h : AH} : mAppM i a env h = match ownAt env i with | none => .stuck | some _ => bndM (a env h) env fun d env h => match ownAt env i with | none => .stuck | some ds => if ds.length < sizeLine then .next (env.set i (.own (ds ++ [d]))) h else .stuck := id rfl
theorem a_ownAt {i : Nat} {env : Env'} : ownAt env i = match env[i]? with | some (.own ds) => some ds | _ => none := id rfl
theorem a_bnd {α β : Type} {a : α} {k : α → AH → Res β} {h : AH} : bnd (.ok a h) k = k a h := id rfl
theorem a_bnd_exc {α β : Type} {c : Ex} {k : α → AH → Res β} {h : AH} : bnd (.exc c h) k = .exc c h := id rfl
theorem a_bndS {α : Type} {a : α} {k : α → AH → SRes} {env : Env'} {h : AH} : bndS (.ok a h) env k = k a h := id rfl
theorem a_bndS_exc {α : Type} {c : Ex} {k : α → AH → SRes} {env : Env'} {h : AH} : bndS (.exc c h) env k = .exc c env h := id rfl
theorem a_bndM {d : D} {e : Env'} {k : D → Env' → AH → SRes} {env : Env'} {h : AH} : bndM (.ok (d, e) h) env k = k d e h := id rfl
theorem a_lift {α : Type} {a : α} {h : AH} : lift (some a) h = .ok a h := id rfl
theorem a_asL_nil  {env : Env'} : asL [] [] env = some env := id rfl
theorem a_asL_cons {i : Nat} {is : List Nat} {d : D} {ds : List D} {env : Env'} : asL (i :: is) (d :: ds) env = asL is ds (env.set i (.val d)) := id rfl
theorem a_gSub {i j : Int}  : gSub (.int i) (.int j) = some (.int (i - j)) := id rfl
theorem a_gNeg {i : Int}  : gNeg (.int i) = some (.int (-i)) := id rfl
theorem a_gAdd {i j : Int}  : gAdd (.int i) (.int j) = some (.int (i + j)) := id rfl
theorem a_gAddT {x y : List D}  : gAdd (.tup x) (.tup y) = if x.length + y.length ≤ sizeLine then some (.tup (x ++ y)) else none := id rfl
theorem a_gAddL {x y : List D}  : gAdd (.lst x) (.lst y) = if x.length + y.length ≤ sizeLine then some (.lst (x ++ y)) else none := id rfl
theorem a_gMulI {i j : Int}  : gMul (.int i) (.int j) = if (-(2 ^ 64) < i ∧ i < 2 ^ 64) ∨ (-(2 ^ 64) < j ∧ j < 2 ^ 64) then some (.int (i * j)) else none := id rfl
theorem a_gMod {i j : Int}  : gMod (.int i) (.int j) = if decide (0 < j) = true then some (.int (i % j)) else none := id rfl
theorem a_gFdiv {i j : Int}  : gFdiv (.int i) (.int j) = if decide (0 < j ∧ j < 1073741824) = true then some (.int (i / j)) else none := id rfl
theorem a_gPow {i j : Int}  : gPow (.int i) (.int j) = if decide (0 ≤ j ∧ j ≤ 1000000 ∧ i.natAbs < 2 ^ 64) = true then some (.int (i ^ j.toNat)) else none := id rfl
theorem a_gLt {i j : Int}  : gLt (.int i) (.int j) = some (decide (i < j)) := id rfl
theorem a_gLe {i j : Int}  : gLe (.int i) (.int j) = some (decide (i ≤ j)) := id rfl
theorem a_gGt {i j : Int}  : gGt (.int i) (.int j) = some (decide (j < i)) := id rfl
theorem a_gGe {i j : Int}  : gGe (.int i) (.int j) = some (decide (j ≤ i)) := id rfl
theorem a_truth_bl {b : Bool}  : truthD (.bl b) = some b := id rfl
theorem a_truth_int {i : Int}  : truthD (.int i) = some (i != 0) := id rfl
theorem a_truth_lst {x : List D}  : truthD (.lst x) = some (!x.isEmpty) := id rfl
theorem a_truth_tup {x : List D}  : truthD (.tup x) = some (!x.isEmpty) := id rfl
theorem a_truth_non   : truthD .non = some false := id rfl
theorem a_blD {b : Bool}  : blD (.bl b) = some b := id rfl
theorem a_sq_tup {x : List D}  : sqOf (.tup x) = some (true, x) := id rfl
theorem a_sq_lst {x : List D}  : sqOf (.lst x) = some (false, x) := id rfl
theorem a_sq_scr {x : List Int}  : sqOf (.scr x) = some (false, x.map .int) := id rfl
theorem a_it_tup {x : List D}  : seqItems (.tup x) = some x := id rfl
theorem a_it_lst {x : List D}  : seqItems (.lst x) = some x := id rfl
theorem a_it_scr {x : List Int}  : seqItems (.scr x) = some (x.map .int) := id rfl
theorem a_qLen {b : Bool} {x : List D}  : qLen (b, x) = some (.int (x.length : Nat)) := id rfl
theorem a_qAt {b : Bool} {x : List D} {i : Int}  : qAt (b, x) (.int i) = atI x i := id rfl
theorem a_qTuple {x : List D}  : qTuple (false, x) = some (.tup x) := id rfl
theorem a_qSum {x : List D}  : qSum (false, x) = (intsOf x).map fun ns => .int ns.sum := id rfl
theorem a_rng1 {j : Int}  : rng1 [.int j] = if -1000000 ≤ j ∧ j ≤ 1000000 then some (rangeD 0 j.toNat) else none := id rfl
theorem a_rng2 {i j : Int}  : rng2 [.int i, .int j] = if (-1000000 ≤ i ∧ i ≤ 1000000) ∧ -1000000 ≤ j ∧ j ≤ 1000000 then some (rangeD i (j - i).toNat) else none := id rfl
theorem a_gLRng {j : Int}  : gLRng (.int j) = if -1000000 ≤ j ∧ j ≤ 1000000 then some (rangeD 0 j.toNat) else none := id rfl
theorem a_fMin2 {i j : Int}  : fMin2 [.int i, .int j] = some (.int (if j < i then j else i)) := id rfl
theorem a_fMax2 {i j : Int}  : fMax2 [.int i, .int j] = some (.int (if j > i then j else i)) := id rfl
theorem a_fMin3 {i j k : Int}  : fMin3q [.int i, .int j, .int k] = some (.int (if j < i then (if k < j then k else j) else (if k < i then k else i))) := id rfl
theorem a_fAbs {i : Int}  : fAbs [.int i] = some (.int (if i < 0 then -i else i)) := id rfl
theorem a_fIntB {b : Bool}  : fInt [.bl b] = some (.int (if b = true then 1 else 0)) := id rfl
theorem a_fIntI {i : Int}  : fInt [.int i] = some (.int i) := id rfl
theorem a_isi_non {T : String}  : gIsi T .non = some (isT T "NoneType") := id rfl
theorem a_isi_bl {T : String} {b : Bool}  : gIsi T (.bl b) = some (isT T "bool") := id rfl
theorem a_isi_int {T : String} {i : Int}  : gIsi T (.int i) = some (isT T "int") := id rfl
theorem a_isi_str {T : String} {x : Str}  : gIsi T (.str x) = some (isT T "str") := id rfl
theorem a_isi_tup {T : String} {x : List D}  : gIsi T (.tup x) = some (isT T "tuple") := id rfl
theorem a_isi_lst {T : String} {x : List D}  : gIsi T (.lst x) = some (isT T "list") := id rfl
theorem a_isN {a : D}  : gIsN a .non = some (isNonD a) := id rfl
theorem a_notN {a : D}  : gNotN a .non = some (!isNonD a) := id rfl
theorem a_ofT {x : List D}  : ofSq (true, x) = .tup x := id rfl
theorem a_ofL {x : List D}  : ofSq (false, x) = .lst x := id rfl
theorem a_qTruth {b : Bool} {x : List D}  : qTruth (b, x) = some (!x.isEmpty) := id rfl
theorem a_mZip {a b : M D} {env : Env'} {h : AH} : mZip a b env h = bnd (a env h) fun x h => bnd (b env h) fun y h => match sqOf x, sqOf y with | some p, some q => .ok (zipD p.2 q.2) h | _, _ => .stuck := id rfl
theorem a_qSumB {b : Bool} {x : List D}  : qSumB (b, x) = (intsOf x).map fun ns => .int ns.sum := id rfl
theorem a_mPar {i j : Nat} {m : M (List D)} {env : Env'} {h : AH} : mPar i j m env h = bndS (m env h) env fun ds h => match ds with | [d, d'] => .next ((env.set i (.val d)).set j (.val d')) h | _ => .stuck := id rfl
theorem a_mAugI {i : Nat} {f : Int → Int → Int} {a : M D} {env : Env'} {h : AH} : mAugI i f a env h = match env[i]? with | some (.val (.int k)) => (bndS (a env h) env fun d h => match d with | .int j => .next (env.set i (.val (.int (f k j)))) h | _ => .stuck) | _ => .stuck := id rfl
theorem a_mWhile {fu : Env' → AH → Nat} {t : M Bool} {body : MS} {env : Env'} {h : AH} : mWhile fu t body env h = loopW t body (fu env h) env h := id rfl
theorem a_mPut {i : Nat} {a k : M D} {env : Env'} {h : AH} : mPut i a k env h = bndS (a env h) env fun d h => match ownAt env i with | none => .stuck | some ds => bndS (k env h) env fun k h => match k with | .int j => (match ixN ds.length j with | some l => .next (env.set i (.own (ds.set l d))) h | none => .stuck) | _ => .stuck := id rfl
theorem a_gRepT {x : List D} {k : Int}  : gRepT (.tup x) (.int k) = if x ≠ [] ∧ 0 ≤ k ∧ k ≤ 1000 ∧ x.length ≤ 1000 then some (.tup (List.replicate k.toNat x).flatten) else none := id rfl
theorem a_mParL {i : Nat} {js : List Nat} {ml mr : M (List D)} {env : Env'} {h : AH} : mParL i js ml mr env h = bndS (ml env h) env fun ds h => bndS (mr env h) env fun es h => match asL js es (env.set i (.own ds)) with | some env' => .next env' h | none => .stuck := id rfl
theorem a_mPar3 {i j l : Nat} {m : M (List D)} {env : Env'} {h : AH} : mPar3 i j l m env h = bndS (m env h) env fun ds h => match ds with | [d, d', d''] => .next (((env.set i (.val d)).set j (.val d')).set l (.val d'')) h | _ => .stuck := id rfl
theorem a_gRevT {x : List D}  : gRev (.tup x) = some (.tup x.reverse) := id rfl
theorem a_gRevL {x : List D}  : gRev (.lst x) = some (.lst x.reverse) := id rfl
theorem a_mZip3 {m : M (List D)} {env : Env'} {h : AH} : mZip3 m env h = bnd (m env h) fun ds h => match ds with | [x, y, z] => (match sqOf x, sqOf y, sqOf z with | some p, some q, some r => .ok (zip3D p.2 q.2 r.2) h | _, _, _ => .stuck) | _ => .stuck := id rfl
theorem a_mIns {i : Nat} {a : M (List D)} {env : Env'} {h : AH} : mIns i a env h = match ownAt env i with | none => .stuck | some ds => bndS (a env h) env fun xs h => match xs with | [.int j, d] => if ds.length < sizeLine ∧ 0 ≤ j ∧ j < 1000000 then .next (env.set i (.own (ds.take j.toNat ++ [d] ++ ds.drop j.toNat))) h else .stuck | _ => .stuck := id rfl
theorem a_gTRng {j : Int}  : gTRng (.int j) = if -1000000 ≤ j ∧ j ≤ 1000000 then some (.tup (rangeD 0 j.toNat)) else none := id rfl
theorem a_mRetO {i : Nat} {env : Env'} {h : AH} : mRetO i env h = match ownAt env i with | some ds => .retN ds h | none => .stuck := id rfl
theorem a_mRetL {a : M (List D)} {env : Env'} {h : AH} : mRetL a env h = bndS (a env h) env fun ds h => .retN ds h := id rfl
theorem a_mCallL {f : List D → AH → Res (List D)} {a : M (List D)} {env : Env'} {h : AH} : mCallL f a env h = bnd (a env h) f := id rfl
theorem a_mTry {cs : List Ex} {body : MS} {hds : List (Ex × MS)} {env : Env'} {h : AH} : mTry cs body hds env h = match body env h with | .exc c env' h' => if cs.contains c = true then (match hdOf c hds with | some s => s env' h' | none => .exc c env' h') else .stuck | r => r := id rfl
theorem a_mAugS {i : Nat} {k : M D} {f : Int → Int → Int} {a : M D} {env : Env'} {h : AH} : mAugS i k f a env h = match ownAt env i with | none => .stuck | some ds => bndS (k env h) env fun kk h => match kk with | .int j => (match atI ds j, ixN ds.length j with | some (.int u), some l => bndS (a env h) env fun d h => (match d with | .int v => .next (env.set i (.own (ds.set l (.int (f u v))))) h | _ => .stuck) | _, _ => .stuck) | _ => .stuck := id rfl
theorem a_mCount {a b : M D} {env : Env'} {h : AH} : mCount a b env h = bnd (a env h) fun x h => match x with | .lst ds => bnd (b env h) fun y h => lift (gCount (.lst ds) y) h | _ => .stuck := id rfl
theorem a_gCount {ds : List D} {k : Int}  : gCount (.lst ds) (.int k) = (intsOf ds).map fun ns => .int (ns.count k : Nat) := id rfl
theorem a_wipe_nil  {env : Env'} : wipeE env [] = env := id rfl
theorem a_wipe_cons {i : Nat} {is : List Nat} {env : Env'} : wipeE env (i :: is) = (wipeE env is).set i .none := id rfl
theorem a_callM {N : Nat} {m : MS} {ds : List D} {h : AH} : callM N m ds h = match m (ds.map .val ++ List.replicate (N - ds.length) .none) h with
  | .next _ h' => .ok .non h'
  | .ret d h' => .ok d h'
  | .retN ds h' => .ok (.lst ds) h'
  | .exc c _ h' => .exc c h'
  | _ => .stuck := id rfl
theorem a_callN {N : Nat} {m : MS} {ds : List D} {h : AH} : callN N m ds h = match m (ds.map .val ++ List.replicate (N - ds.length) .none) h with
  | .retN ds h' => .ok ds h'
  | .exc c _ h' => .exc c h'
  | _ => .stuck := id rfl
end Fx

namespace Fx
open PySem
open L2
/-! ### plain things as data -/
structure Emb {α : Type} (f : α → D) (k : Nat) : Prop where
  dp : ∀ a, dpt (f a) ≤ k
  eq : ∀ a b, eqD (f a) (f b) = true ↔ a = b
section
variable {α β : Type} {f : α → D} {g : β → D} {k : Nat}
theorem Emb.int : Emb D.int 0 := ⟨fun a => by rw [dpt]; omega, fun a b => by unfold eqD; rw [toPy, toPy, PyData.eqv]; exact beq_iff_eq⟩
theorem eqvAll_map (E : Emb f k) : ∀ as bs : List α, PyData.eqvAll (toPyL (as.map f)) (toPyL (bs.map f)) = true ↔ as = bs
  | [], [] => by rw [List.map_nil, toPyL, PyData.eqvAll]; simp
  | [], b :: bs => by rw [List.map_nil, List.map_cons, toPyL, toPyL, PyData.eqvAll]; simp
  | a :: as, [] => by rw [List.map_nil, List.map_cons, toPyL, toPyL, PyData.eqvAll]; simp
  | a :: as, b :: bs => by
    rw [List.map_cons, List.map_cons, toPyL, toPyL, PyData.eqvAll, Bool.and_eq_true, eqvAll_map E as bs]
    have := E.eq a b
    unfold eqD at this
    rw [this, List.cons.injEq]
theorem dptL_map (E : Emb f k) : ∀ as : List α, dptL (as.map f) ≤ k
  | [] => by rw [List.map_nil, dptL]; omega
  | a :: as => by rw [List.map_cons, dptL]; have := E.dp a; have := dptL_map E as; omega
theorem Emb.tup (E : Emb f k) : Emb (fun as : List α => D.tup (as.map f)) (k + 1) := ⟨fun a => by rw [dpt]; have := dptL_map E a; omega, fun a b => by unfold eqD; rw [toPy, toPy, PyData.eqv]; exact eqvAll_map E a b⟩
theorem Emb.lst (E : Emb f k) : Emb (fun as : List α => D.lst (as.map f)) (k + 1) := ⟨fun a => by rw [dpt]; have := dptL_map E a; omega, fun a b => by unfold eqD; rw [toPy, toPy, PyData.eqv]; exact eqvAll_map E a b⟩
theorem Emb.pair {m : Nat} (E : Emb f k) (F : Emb g m) : Emb (fun p : α × β => D.tup [f p.1, g p.2]) (max k m + 1) := ⟨fun a => by
    rw [dpt, dptL, dptL, dptL]
    have := E.dp a.1
    have := F.dp a.2
    omega, fun a b => by
    unfold eqD
    have h1 := E.eq a.1 b.1
    have h2 := F.eq a.2 b.2
    unfold eqD at h1 h2
    rw [toPy, toPy, PyData.eqv]
    simp only [toPyL]
    simp only [PyData.eqvAll, Bool.and_true, Bool.and_eq_true]
    rw [h1, h2, Prod.ext_iff]⟩
theorem Emb.tupI : Emb tupI 1 := Emb.int.tup
variable [DecidableEq α] [DecidableEq β]
theorem bool_dec {p : Prop} [Decidable p] {b : Bool} (h : b = true ↔ p) : b = decide p := by rw [Bool.eq_iff_iff, decide_eq_true_iff]; exact h
theorem Emb.gEq (E : Emb f k) (hk : k ≤ 60) (a b : α) : gEq (f a) (f b) = some (decide (a = b)) := by
  unfold Fx.gEq
  have h1 := E.dp a
  have h2 := E.dp b
  rw [if_pos (by omega), bool_dec (E.eq a b)]
theorem Emb.gNe (E : Emb f k) (hk : k ≤ 60) (a b : α) : gNe (f a) (f b) = some (!decide (a = b)) := by
  unfold Fx.gNe
  have h1 := E.dp a
  have h2 := E.dp b
  rw [if_pos (by omega), bool_dec (E.eq a b)]
theorem Emb.any (E : Emb f k) (a : α) (as : List α) : anyEq (f a) (as.map f) = decide (a ∈ as) := by
  refine bool_dec ?_
  unfold anyEq
  rw [List.any_map, List.any_eq_true]
  constructor
  · rintro ⟨b, hb, e⟩
    rw [← (E.eq b a).mp e]
    exact hb
  · exact fun h => ⟨a, h, (E.eq a a).mpr rfl⟩
theorem Emb.qIn (E : Emb f k) (hk : k ≤ 59) (b : Bool) (a : α) (as : List α) : qIn (f a) (b, as.map f) = some (decide (a ∈ as)) := by
  unfold Fx.qIn
  have h1 := E.dp a
  have h2 := dptL_map E as
  rw [if_pos ⟨by omega, by show dptL (as.map f) ≤ 59; omega⟩, E.any]
theorem Emb.qNotIn (E : Emb f k) (hk : k ≤ 59) (b : Bool) (a : α) (as : List α) : qNotIn (f a) (b, as.map f) = some (!decide (a ∈ as)) := by
  unfold Fx.qNotIn
  have h1 := E.dp a
  have h2 := dptL_map E as
  rw [if_pos ⟨by omega, by show dptL (as.map f) ≤ 59; omega⟩, E.any]
end
theorem b_eqI (i j : Int) : gEq (.int i) (.int j) = some (decide (i = j)) := Emb.int.gEq (by omega) i j
theorem b_neI (i j : Int) : gNe (.int i) (.int j) = some (!decide (i = j)) := Emb.int.gNe (by omega) i j
theorem b_eqT (i j : List Int) : gEq (.tup (i.map .int)) (.tup (j.map .int)) = some (decide (i = j)) := Emb.int.tup.gEq (by omega) i j
theorem b_neT (i j : List Int) : gNe (.tup (i.map .int)) (.tup (j.map .int)) = some (!decide (i = j)) := Emb.int.tup.gNe (by omega) i j
theorem b_eqL (i j : List Int) : gEq (.lst (i.map .int)) (.lst (j.map .int)) = some (decide (i = j)) := Emb.int.lst.gEq (by omega) i j
theorem b_neL (i j : List Int) : gNe (.lst (i.map .int)) (.lst (j.map .int)) = some (!decide (i = j)) := Emb.int.lst.gNe (by omega) i j
theorem b_eqLT (i j : List (List Int)) : gEq (.lst (i.map tupI)) (.lst (j.map tupI)) = some (decide (i = j)) := Emb.tupI.lst.gEq (by omega) i j
theorem b_neLT (i j : List (List Int)) : gNe (.lst (i.map tupI)) (.lst (j.map tupI)) = some (!decide (i = j)) := Emb.tupI.lst.gNe (by omega) i j
theorem b_inI (b : Bool) (i : Int) (j : List Int) : qIn (.int i) (b, j.map .int) = some (decide (i ∈ j)) := Emb.int.qIn (by omega) b i j
theorem b_notInI (b : Bool) (i : Int) (j : List Int) : qNotIn (.int i) (b, j.map .int) = some (!decide (i ∈ j)) := Emb.int.qNotIn (by omega) b i j
theorem b_inT (b : Bool) (i : List Int) (j : List (List Int)) : qIn (.tup (i.map .int)) (b, j.map tupI) = some (decide (i ∈ j)) := by rw [show D.tup (i.map .int) = tupI i from rfl, Emb.tupI.qIn (by omega) b i j]; congr 2
theorem b_notInT (b : Bool) (i : List Int) (j : List (List Int)) : qNotIn (.tup (i.map .int)) (b, j.map tupI) = some (!decide (i ∈ j)) := by rw [show D.tup (i.map .int) = tupI i from rfl, Emb.tupI.qNotIn (by omega) b i j]; congr 3
/-! ### reading at an index -/
theorem atI_n {α : Type} (xs : List α) (n : Nat) : atI xs (n : Int) = xs[n]? := by
  unfold atI ixN
  rw [if_pos (by omega)]
  by_cases h : n < xs.length
  · rw [if_pos (by omega)]
    show xs[((n : Int)).toNat]? = _
    rw [Int.toNat_natCast]
  · rw [if_neg (by omega)]
    show none = _
    rw [List.getElem?_eq_none (by omega)]
theorem atI_pos {α : Type} (xs : List α) (i : Int) (h : 0 ≤ i) : atI xs i = xs[i.toNat]? := by
  obtain ⟨n, rfl⟩ := Int.eq_ofNat_of_zero_le h
  rw [atI_n, Int.toNat_natCast]
theorem atI_map {α : Type} (f : α → D) (xs : List α) (i : Int) (h : 0 ≤ i) (h2 : i < xs.length) : ∃ x, xs[i.toNat]? = some x ∧ atI (xs.map f) i = some (f x) := by
  refine ⟨xs[i.toNat]'(by omega), List.getElem?_eq_getElem (by omega), ?_⟩
  rw [atI_pos _ _ h, List.getElem?_map, List.getElem?_eq_getElem (by omega)]
  rfl
/-! ### loops -/
theorem loopF_rel {as : D → Env' → Option Env'} {body : MS} {h : AH} (I : List D → Env' → Prop) : ∀ (ds pre : List D) (env : Env'), I pre env →
    (∀ pre d rest env, pre ++ d :: rest = pre ++ (d :: rest) → I pre env → d ∈ ds → ∃ env1, as d env = some env1 ∧ ∃ env2, body env1 h = .next env2 h ∧ I (pre ++ [d]) env2) → ∃ env', loopF as body ds env h = .next env' h ∧ I (pre ++ ds) env'
  | [], pre, env, i, _ => ⟨env, rfl, by simpa using i⟩
  | d :: ds, pre, env, i, st => by
    obtain ⟨env1, e1, env2, e2, i2⟩ := st pre d [] env rfl i List.mem_cons_self
    obtain ⟨env', e3, i3⟩ := loopF_rel I ds (pre ++ [d]) env2 i2 fun pre d' rest env r i' m => st pre d' rest env r i' (List.mem_cons_of_mem _ m)
    refine ⟨env', ?_, by simpa using i3⟩
    rw [loopF, e1]
    dsimp only
    rw [e2]
    exact e3
/-- a loop that goes through all: I k, after k of them -/
theorem loopF_all {α : Type} {as : D → Env' → Option Env'} {body : MS} {h : AH} (f : α → D) (I : Nat → Env' → Prop) : ∀ (xs : List α) (k : Nat) (env : Env'), I k env →
    (∀ j x env, xs[j]? = some x → I (k + j) env → ∃ env1, as (f x) env = some env1 ∧ ∃ env2, body env1 h = .next env2 h ∧ I (k + j + 1) env2) → ∃ env', loopF as body (xs.map f) env h = .next env' h ∧ I (k + xs.length) env'
  | [], k, env, i, _ => ⟨env, rfl, i⟩
  | x :: xs, k, env, i, st => by
    obtain ⟨env1, e1, env2, e2, i2⟩ := st 0 x env rfl i
    obtain ⟨env', e3, i3⟩ := loopF_all f I xs (k + 1) env2 i2 fun j y env e i' => by
      have := st (j + 1) y env (by simpa using e) (by rw [show k + (j + 1) = k + 1 + j by omega]; exact i')
      rw [show k + (j + 1) + 1 = k + 1 + j + 1 by omega] at this
      exact this
    refine ⟨env', ?_, by rw [List.length_cons, show k + (xs.length + 1) = k + 1 + xs.length by omega]; exact i3⟩
    rw [List.map_cons, loopF, e1]
    dsimp only
    rw [e2]
    exact e3
/-- a loop whose state is a fold -/
theorem loopF_fold {α β : Type} {as : D → Env' → Option Env'} {body : MS} {h : AH} (f : α → D) (S : β → Env' → Prop) (g : β → α → β) : ∀ (xs : List α) (b : β) (env : Env'), S b env →
    (∀ x b env, x ∈ xs → S b env → ∃ env1, as (f x) env = some env1 ∧ ∃ env2, body env1 h = .next env2 h ∧ S (g b x) env2) → ∃ env', loopF as body (xs.map f) env h = .next env' h ∧ S (xs.foldl g b) env'
  | [], b, env, i, _ => ⟨env, rfl, i⟩
  | x :: xs, b, env, i, st => by
    obtain ⟨env1, e1, env2, e2, i2⟩ := st x b env List.mem_cons_self i
    obtain ⟨env', e3, i3⟩ := loopF_fold f S g xs (g b x) env2 i2 fun y b env m i' => st y b env (List.mem_cons_of_mem _ m) i'
    refine ⟨env', ?_, i3⟩
    rw [List.map_cons, loopF, e1]
    dsimp only
    rw [e2]
    exact e3
theorem lc_eq {α : Type} {as : D → Env' → Option Env'} {t : M Bool} {e : M D} {env : Env'} {h : AH} (f : α → D) (p : α → Bool) (g : α → D) : ∀ (xs : List α),
    (∀ x, x ∈ xs → ∃ env1, as (f x) env = some env1 ∧ t env1 h = .ok (p x) h ∧ (p x = true → e env1 h = .ok (g x) h)) → lcLoop as t e (xs.map f) env h = .ok ((xs.filter p).map g) h
  | [], _ => rfl
  | x :: xs, st => by
    obtain ⟨env1, e1, e2, e3⟩ := st x List.mem_cons_self
    have ih := lc_eq f p g xs fun y m => st y (List.mem_cons_of_mem _ m)
    rw [List.map_cons, lcLoop, e1]
    dsimp only
    rw [e2]
    cases hp : p x with
    | true =>
      dsimp only
      rw [e3 hp]
      dsimp only
      rw [ih, List.filter_cons_of_pos hp]
      rfl
    | false =>
      dsimp only
      rw [ih, List.filter_cons_of_neg (by rw [hp]; simp)]
theorem lc_map {α : Type} {as : D → Env' → Option Env'} {e : M D} {env : Env'} {h : AH} (f : α → D) (g : α → D) (xs : List α)
    (st : ∀ x, x ∈ xs → ∃ env1, as (f x) env = some env1 ∧ e env1 h = .ok (g x) h) : lcLoop as (fun _ h => .ok true h) e (xs.map f) env h = .ok (xs.map g) h := by
  have := lc_eq (as := as) (t := fun _ h => .ok true h) (e := e) (env := env) (h := h) f (fun _ => true) g xs fun x m => by
    obtain ⟨env1, e1, e2⟩ := st x m
    exact ⟨env1, e1, rfl, fun _ => e2⟩
  rw [this, List.filter_eq_self.mpr fun _ _ => rfl]
theorem rangeD_map (lo : Int) (n : Nat) : rangeD lo n = (List.range n).map fun (i : Nat) => D.int (lo + i) := rfl
theorem rangeD_len (lo : Int) (n : Nat) : (rangeD lo n).length = n := by unfold rangeD; simp
end Fx

namespace Fx
open PySem
open L2
/-! ### plain things in Python's order -/
structure OE {α : Type} (f : α → D) (lt : α → α → Bool) (k : Nat) : Prop where
  em : Emb f k
  al : ∀ a b, alikeD (f a) (f b) = true
  ls : ∀ a b, ltD (f a) (f b) = lt a b
  irr : ∀ a, lt a a = false
  tr : ∀ a b c, lt a b = true → lt b c = true → lt a c = true
  tot : ∀ a b, lt a b = false → a = b ∨ lt b a = true
section
variable {α β : Type} {f : α → D} {g : β → D} {lt : α → α → Bool} {lu : β → β → Bool} {k j : Nat}
theorem OE.asym (O : OE f lt k) {a b : α} (h : lt a b = true) : lt b a = false := by
  cases e : lt b a with
  | false => rfl
  | true => have := O.tr a b a h e; rw [O.irr] at this; cases this
theorem OE.int : OE D.int (fun i j => decide (i < j)) 0 where
  em := Emb.int
  al := fun a b => by unfold alikeD; rw [toPy, toPy, PySem.W.alike]; rfl
  ls := fun a b => by unfold ltD; rw [toPy, toPy, PySem.W.dataLt_int]
  irr := fun a => by simp
  tr := fun a b c h1 h2 => by simp at *; omega
  tot := fun a b h => by simp at *; omega
def lexB (lt : α → α → Bool) [DecidableEq α] : List α → List α → Bool
  | [], [] => false
  | [], _ :: _ => true
  | _ :: _, [] => false
  | x :: xs, y :: ys => if x = y then lexB lt xs ys else lt x y
section
variable [DecidableEq α]
theorem lexB_tr (O : OE f lt k) : ∀ a b c : List α, lexB lt a b = true → lexB lt b c = true → lexB lt a c = true
  | [], [], _, h, _ => by simp [lexB] at h
  | [], _ :: _, [], _, h => by simp [lexB] at h
  | [], _ :: _, _ :: _, _, _ => by simp [lexB]
  | _ :: _, [], _, h, _ => by simp [lexB] at h
  | _ :: _, _ :: _, [], _, h => by simp [lexB] at h
  | x :: xs, y :: ys, z :: zs, h, h' => by
    simp only [lexB] at h h' ⊢
    by_cases e : x = y
    · subst e
      rw [if_pos rfl] at h
      by_cases e : x = z
      · subst e
        rw [if_pos rfl] at h' ⊢
        exact lexB_tr O xs ys zs h h'
      · rw [if_neg e] at h' ⊢
        exact h'
    · rw [if_neg e] at h
      by_cases e' : y = z
      · subst e'
        rw [if_neg e]
        exact h
      · rw [if_neg e'] at h'
        have h3 := O.tr _ _ _ h h'
        rw [if_neg fun q => by rw [q, O.irr] at h3; cases h3]
        exact h3
theorem lexB_tot (O : OE f lt k) : ∀ a b : List α, lexB lt a b = false → a = b ∨ lexB lt b a = true
  | [], [], _ => .inl rfl
  | [], _ :: _, h => by simp [lexB] at h
  | _ :: _, [], _ => .inr (by simp [lexB])
  | x :: xs, y :: ys, h => by
    simp only [lexB] at h ⊢
    by_cases e : x = y
    · subst e
      rw [if_pos rfl] at h ⊢
      rcases lexB_tot O xs ys h with z | z
      · exact .inl (by rw [z])
      · exact .inr z
    · rw [if_neg e] at h
      rw [if_neg (Ne.symm e)]
      exact .inr ((O.tot _ _ h).resolve_left e)
theorem lexB_irr : ∀ a : List α, lexB lt a a = false
  | [] => by simp [lexB]
  | x :: xs => by
    show (if x = x then lexB lt xs xs else lt x x) = false
    rw [if_pos rfl]
    exact lexB_irr xs
theorem alikeAll_map (O : OE f lt k) : ∀ as bs : List α, PySem.W.alikeAll (toPyL (as.map f)) (toPyL (bs.map f)) = true
  | [], _ => by rw [List.map_nil, toPyL, PySem.W.alikeAll]
  | _ :: _, [] => by rw [List.map_nil, List.map_cons, toPyL, toPyL, PySem.W.alikeAll]
  | a :: as, b :: bs => by
    have h := O.al a b
    unfold alikeD at h
    rw [Bool.and_eq_true, Bool.and_eq_true] at h
    rw [List.map_cons, List.map_cons, toPyL, toPyL, PySem.W.alikeAll, h.1.1, alikeAll_map O as bs]
    rfl
theorem lexAll_map (O : OE f lt k) : ∀ as bs : List α, PyProof.Rows.lexLt PyProof.Rows.itemOrd (PySem.W.keyToksAll (toPyL (as.map f))) (PySem.W.keyToksAll (toPyL (bs.map f))) = lexB lt as bs
  | [], [] => by
    rw [List.map_nil, toPyL]
    exact PyProof.Rows.lex_irrefl _
  | [], _ :: _ => by
    rw [List.map_nil, List.map_cons, toPyL, toPyL, PySem.W.keyToksAll, PySem.W.keyToksAll, PyProof.Rows.lex_diff (O := PyProof.Rows.itemOrd) (by simp)]
    rfl
  | _ :: _, [] => by
    rw [List.map_nil, List.map_cons, toPyL, toPyL, PySem.W.keyToksAll, PySem.W.keyToksAll, PyProof.Rows.lex_diff (O := PyProof.Rows.itemOrd) (by simp)]
    rfl
  | a :: as, b :: bs => by
    have h := O.al a b
    unfold alikeD at h
    rw [Bool.and_eq_true, Bool.and_eq_true] at h
    rw [List.map_cons, List.map_cons, toPyL, toPyL, PySem.W.dataLt_cons h.1.1, lexAll_map O as bs]
    have e := O.em.eq a b
    have l := O.ls a b
    unfold eqD at e
    unfold ltD at l
    rw [l]
    simp only [lexB]
    by_cases z : a = b
    · rw [if_pos (e.mpr z), if_pos z]
    · rw [if_neg fun q => z (e.mp q), if_neg z]
theorem OE.tup (O : OE f lt k) : OE (fun as : List α => D.tup (as.map f)) (lexB lt) (k + 1) where
  em := O.em.tup
  al := fun a b => by unfold alikeD; rw [toPy, toPy, PySem.W.alike, alikeAll_map O]; rfl
  ls := fun a b => by unfold ltD; rw [toPy, toPy, PySem.W.dataLt_tuple, lexAll_map O]
  irr := lexB_irr
  tr := lexB_tr O
  tot := lexB_tot O
theorem OE.lst (O : OE f lt k) : OE (fun as : List α => D.lst (as.map f)) (lexB lt) (k + 1) where
  em := O.em.lst
  al := fun a b => by unfold alikeD; rw [toPy, toPy, PySem.W.alike, alikeAll_map O]; rfl
  ls := fun a b => by unfold ltD; rw [toPy, toPy, PySem.W.dataLt_list, lexAll_map O]
  irr := lexB_irr
  tr := lexB_tr O
  tot := lexB_tot O
end
def lexP [DecidableEq α] (lt : α → α → Bool) (lu : β → β → Bool) (p q : α × β) : Bool := if p.1 = q.1 then lu p.2 q.2 else lt p.1 q.1
theorem OE.pair [DecidableEq α] (O : OE f lt k) (N : OE g lu j) : OE (fun p : α × β => D.tup [f p.1, g p.2]) (lexP lt lu) (max k j + 1) where
  em := O.em.pair N.em
  al := fun a b => by
    have h1 := O.al a.1 b.1
    have h2 := N.al a.2 b.2
    unfold alikeD at *
    rw [Bool.and_eq_true, Bool.and_eq_true] at h1 h2
    rw [toPy, toPy, PySem.W.alike]
    simp only [toPyL, PySem.W.alikeAll]
    rw [h1.1.1, h2.1.1]
    rfl
  ls := fun a b => by
    have h1 := O.al a.1 b.1
    have h2 := N.al a.2 b.2
    unfold alikeD at *
    rw [Bool.and_eq_true, Bool.and_eq_true] at h1 h2
    unfold ltD
    rw [toPy, toPy]
    simp only [toPyL]
    rw [PySem.W.dataLt_pair h1.1.1 h2.1.1]
    have e1 := O.em.eq a.1 b.1
    have l1 := O.ls a.1 b.1
    have e2 := N.em.eq a.2 b.2
    have l2 := N.ls a.2 b.2
    unfold eqD at e1 e2
    unfold ltD at l1 l2
    rw [l1, l2]
    unfold lexP
    by_cases z : a.1 = b.1
    · rw [if_pos (e1.mpr z), if_pos z]
      by_cases z2 : a.2 = b.2
      · rw [if_pos (e2.mpr z2), z2, N.irr]
      · rw [if_neg fun q => z2 (e2.mp q)]
    · rw [if_neg fun q => z (e1.mp q), if_neg z]
  irr := fun a => by unfold lexP; rw [if_pos rfl]; exact N.irr _
  tr := fun a b c h1 h2 => by
    unfold lexP at *
    by_cases e : a.1 = b.1
    · rw [if_pos e] at h1
      by_cases e' : b.1 = c.1
      · rw [if_pos e'] at h2
        rw [if_pos (e.trans e')]
        exact N.tr _ _ _ h1 h2
      · rw [if_neg e'] at h2
        rw [e, if_neg e']
        exact h2
    · rw [if_neg e] at h1
      by_cases e' : b.1 = c.1
      · rw [← e', if_neg e]
        exact h1
      · rw [if_neg e'] at h2
        have h3 := O.tr _ _ _ h1 h2
        rw [if_neg fun q => by rw [q, O.irr] at h3; cases h3]
        exact h3
  tot := fun a b h => by
    unfold lexP at *
    by_cases e : a.1 = b.1
    · rw [if_pos e] at h
      rw [if_pos e.symm]
      rcases N.tot _ _ h with z | z
      · exact .inl (Prod.ext e z)
      · exact .inr z
    · rw [if_neg e] at h
      rw [if_neg (Ne.symm e)]
      exact .inr ((O.tot _ _ h).resolve_left e)
theorem OE.tupI : OE tupI (lexB fun i j => decide (i < j)) 1 := OE.int.tup
theorem allAlike_map (O : OE f lt k) (as : List α) : allAlike (as.map f) = true := by
  unfold allAlike
  refine List.all_eq_true.mpr fun x hx => List.all_eq_true.mpr fun y hy => ?_
  obtain ⟨a, _, rfl⟩ := List.mem_map.mp hx
  obtain ⟨b, _, rfl⟩ := List.mem_map.mp hy
  exact O.al a b
/-! ### least, greatest -/
def minA (lt : α → α → Bool) (a : α) (as : List α) : α := as.foldl (fun m y => if lt y m = true then y else m) a
def maxA (lt : α → α → Bool) (a : α) (as : List α) : α := as.foldl (fun m y => if lt m y = true then y else m) a
theorem minF_map (O : OE f lt k) : ∀ (as : List α) (a : α), minF (f a) (as.map f) = f (minA lt a as)
  | [], a => rfl
  | y :: as, a => by
    show minF (if ltD (f y) (f a) = true then f y else f a) (as.map f) = f (minA lt (if lt y a = true then y else a) as)
    rw [O.ls]
    by_cases z : lt y a = true
    · rw [if_pos z, if_pos z, minF_map O as]
    · rw [if_neg z, if_neg z, minF_map O as]
theorem maxF_map (O : OE f lt k) : ∀ (as : List α) (a : α), maxF (f a) (as.map f) = f (maxA lt a as)
  | [], a => rfl
  | y :: as, a => by
    show maxF (if ltD (f a) (f y) = true then f y else f a) (as.map f) = f (maxA lt (if lt a y = true then y else a) as)
    rw [O.ls]
    by_cases z : lt a y = true
    · rw [if_pos z, if_pos z, maxF_map O as]
    · rw [if_neg z, if_neg z, maxF_map O as]
theorem b_min (O : OE f lt k) (hk : k ≤ 60) (a : α) (as : List α) : qMin (false, (a :: as).map f) = some (f (minA lt a as)) := by
  have h1 := dptL_map O.em (a :: as)
  have h2 := allAlike_map O (a :: as)
  rw [← minF_map O]
  show (if dptL ((a :: as).map f) ≤ 60 ∧ allAlike ((a :: as).map f) = true then some (minF (f a) (as.map f)) else none) = _
  rw [if_pos ⟨by omega, h2⟩]
theorem b_max (O : OE f lt k) (hk : k ≤ 60) (a : α) (as : List α) : qMax (false, (a :: as).map f) = some (f (maxA lt a as)) := by
  have h1 := dptL_map O.em (a :: as)
  have h2 := allAlike_map O (a :: as)
  rw [← maxF_map O]
  show (if dptL ((a :: as).map f) ≤ 60 ∧ allAlike ((a :: as).map f) = true then some (maxF (f a) (as.map f)) else none) = _
  rw [if_pos ⟨by omega, h2⟩]
theorem minA_ok (O : OE f lt k) : ∀ (as : List α) (a : α), minA lt a as ∈ a :: as ∧ ∀ x ∈ a :: as, lt x (minA lt a as) = false
  | [], a => ⟨List.mem_cons_self, fun x hx => by
    rcases List.mem_cons.mp hx with z | z
    · rw [z]; exact O.irr a
    · cases z⟩
  | y :: as, a => by
    have e : minA lt a (y :: as) = minA lt (if lt y a = true then y else a) as := rfl
    obtain ⟨h1, h2⟩ := minA_ok O as (if lt y a = true then y else a)
    rw [e]
    refine ⟨?_, fun x hx => ?_⟩
    · rcases List.mem_cons.mp h1 with z | z
      · rw [z]
        split
        · exact List.mem_cons_of_mem _ List.mem_cons_self
        · exact List.mem_cons_self
      · exact List.mem_cons_of_mem _ (List.mem_cons_of_mem _ z)
    · have h3 := h2 _ List.mem_cons_self
      have low : ∀ z, lt z (if lt y a = true then y else a) = false → lt z (minA lt (if lt y a = true then y else a) as) = false := fun z hz => by
        cases q : lt z (minA lt (if lt y a = true then y else a) as) with
        | false => rfl
        | true =>
          rcases O.tot _ _ h3 with w | w
          · rw [← w] at q; rw [q] at hz; cases hz
          · have := O.tr _ _ _ q w; rw [this] at hz; cases hz
      rcases List.mem_cons.mp hx with z | z
      · subst z
        refine low _ ?_
        by_cases w : lt y x = true
        · rw [if_pos w]; exact O.asym w
        · rw [if_neg w]; exact O.irr x
      · rcases List.mem_cons.mp z with z | z
        · subst z
          refine low _ ?_
          by_cases w : lt x a = true
          · rw [if_pos w]; exact O.irr x
          · rw [if_neg w]; simpa using w
        · exact h2 x (List.mem_cons_of_mem _ z)
/-- the least of things is one that all others are not below -/
theorem minA_unique (O : OE f lt k) {as : List α} {a m : α} (h1 : m ∈ a :: as) (h2 : ∀ x ∈ a :: as, lt x m = false) : minA lt a as = m := by
  obtain ⟨g1, g2⟩ := minA_ok O as a
  rcases O.tot _ _ (g2 m h1) with z | z
  · exact z.symm
  · rw [h2 _ g1] at z; cases z
/-! ### sorted -/
def sortA (lt : α → α → Bool) (as : List α) : List α := as.mergeSort fun a b => !lt b a
theorem sortD_map (O : OE f lt k) (as : List α) : sortD (as.map f) = (sortA lt as).map f := by
  unfold sortD sortA
  refine (List.map_mergeSort fun a _ b _ => ?_).symm
  have := O.ls b a
  unfold ltD PySem.W.dataLt at this
  show (!lt b a) = !PyProof.Rows.lexLt PyProof.Rows.itemOrd (PySem.W.keyToks (toPy (f b))) (PySem.W.keyToks (toPy (f a)))
  rw [this]
theorem sortA_perm (lt : α → α → Bool) (as : List α) : (sortA lt as).Perm as := List.mergeSort_perm _ _
theorem sortA_up (O : OE f lt k) (as : List α) : (sortA lt as).Pairwise fun a b => lt b a = false := by
  have := List.pairwise_mergeSort (le := fun a b => !lt b a) (fun a b c h1 h2 => by
    simp at *
    cases q : lt c a with
    | false => rfl
    | true =>
      rcases O.tot _ _ h1 with w | w
      · rw [w, q] at h2; cases h2
      · have := O.tr _ _ _ q w; rw [this] at h2; cases h2) (fun a b => by
    simp
    cases q : lt b a with
    | false => exact .inl rfl
    | true => exact .inr (O.asym q)) as
  exact this.imp fun h => by simpa using h
theorem b_sortedT (O : OE f lt k) (hk : k ≤ 60) {as : List α} (hs : sortable (as.map f) = true) : qSorted (false, as.map f) = some (.lst ((sortA lt as).map f)) := by
  have h1 := dptL_map O.em as
  unfold qSorted
  rw [if_pos ⟨rfl, by show dptL (as.map f) ≤ 60; omega, allAlike_map O as, hs⟩, sortD_map O]
end
/-- rising lists with the same items, the order strict -/
theorem up_one {α : Type} {f : α → D} {lt : α → α → Bool} {k : Nat} (O : OE f lt k) : ∀ {l m : List α}, l.Pairwise (fun a b => lt a b = true) → m.Pairwise (fun a b => lt a b = true) → (∀ x, x ∈ l ↔ x ∈ m) → l = m
  | [], [], _, _, _ => rfl
  | [], y :: m, _, _, h => absurd ((h y).mpr List.mem_cons_self) (by simp)
  | x :: l, [], _, _, h => absurd ((h x).mp List.mem_cons_self) (by simp)
  | x :: l, y :: m, hl, hm, h => by
    obtain ⟨l1, l2⟩ := List.pairwise_cons.mp hl
    obtain ⟨m1, m2⟩ := List.pairwise_cons.mp hm
    have e : x = y := by
      rcases List.mem_cons.mp ((h x).mp List.mem_cons_self) with z | z
      · exact z
      · rcases List.mem_cons.mp ((h y).mpr List.mem_cons_self) with z' | z'
        · exact z'.symm
        · have := O.tr _ _ _ (m1 x z) (l1 y z')
          rw [O.irr] at this
          cases this
    subst e
    rw [up_one O l2 m2 fun z => ?_]
    constructor
    · intro hz
      rcases List.mem_cons.mp ((h z).mp (List.mem_cons_of_mem _ hz)) with e | e
      · subst e
        have := l1 z hz
        rw [O.irr] at this
        cases this
      · exact e
    · intro hz
      rcases List.mem_cons.mp ((h z).mpr (List.mem_cons_of_mem _ hz)) with e | e
      · subst e
        have := m1 z hz
        rw [O.irr] at this
        cases this
      · exact e
theorem lexB_int : ∀ a b : List Int, lexB (fun i j => decide (i < j)) a b = HT.lexLt a b
  | [], [] => by simp [lexB, HT.lexLt]
  | [], _ :: _ => by simp [lexB, HT.lexLt]
  | _ :: _, [] => by simp [lexB, HT.lexLt]
  | x :: xs, y :: ys => by
    simp only [lexB, HT.lexLt_cons]
    split
    · exact lexB_int xs ys
    · rfl
theorem b_mul (i j : Int) (h : (-1000000000 ≤ i ∧ i ≤ 1000000000) ∨ (-1000000000 ≤ j ∧ j ≤ 1000000000)) : gMul (.int i) (.int j) = some (.int (i * j)) := by
  rw [a_gMulI, if_pos]
  have e : (2 ^ 64 : Int) = 18446744073709551616 := by decide
  rw [e]
  rcases h with h | h
  · exact .inl ⟨by omega, by omega⟩
  · exact .inr ⟨by omega, by omega⟩
theorem loopW_meas {t : M Bool} {body : MS} {h : AH} (S : Env' → Prop) (μ : Env' → Nat) (st : ∀ env, S env → t env h = .ok false h ∨ (t env h = .ok true h ∧ ∃ env2, body env h = .next env2 h ∧ S env2 ∧ μ env2 < μ env)) :
    ∀ (fuel : Nat) (env : Env'), μ env < fuel → S env → ∃ env', loopW t body fuel env h = .next env' h ∧ S env' ∧ t env' h = .ok false h
  | 0, env, hf, _ => absurd hf (by omega)
  | fuel + 1, env, hf, i => by
    rcases st env i with e | ⟨e, env2, e2, i2, lt⟩
    · refine ⟨env, ?_, i, e⟩
      rw [loopW, e]
      rfl
    · obtain ⟨env', e3, i3, e4⟩ := loopW_meas S μ st fuel env2 (by omega) i2
      refine ⟨env', ?_, i3, e4⟩
      rw [loopW, e]
      show (if true = true then (match body env h with | .next env2 h2 => loopW t body fuel env2 h2 | .cnt env2 h2 => loopW t body fuel env2 h2 | .brk env2 h2 => .next env2 h2 | r => r) else .next env h) = _
      rw [if_pos rfl, e2]
      exact e3
theorem b_sortedB {α : Type} {f : α → D} {lt : α → α → Bool} {k : Nat} (O : OE f lt k) (hk : k ≤ 60) (b : Bool) {as : List α} (hs : sortable (as.map f) = true) : qSortedB (b, as.map f) = some (.lst ((sortA lt as).map f)) := by
  have h1 := dptL_map O.em as
  unfold qSortedB
  rw [if_pos ⟨by show dptL (as.map f) ≤ 60; omega, allAlike_map O as, hs⟩, sortD_map O]
theorem sortable_int (as : List Int) : sortable (as.map D.int) = true := by
  unfold sortable
  rw [Bool.or_eq_true]
  refine .inr (List.all_eq_true.mpr fun x hx => ?_)
  obtain ⟨a, _, rfl⟩ := List.mem_map.mp hx
  rfl
end Fx

namespace Fx
open PySem
open L2
/-! ### loops, told by their runs -/
/-- J: what is left, and how it stands -/
theorem loopF_rest {α : Type} {as : D → Env' → Option Env'} {body : MS} {h : AH} {f : α → D} (J : List α → Env' → Prop) (st : ∀ x r env, J (x :: r) env → ∃ env1, as (f x) env = some env1 ∧ ∃ env2, body env1 h = .next env2 h ∧ J r env2) :
    ∀ (xs : List α) (env : Env') (r : SRes), loopF as body (xs.map f) env h = r → J xs env → ∃ env', r = .next env' h ∧ J [] env'
  | [], env, r, e, i => ⟨env, e.symm, i⟩
  | x :: xs, env, r, e, i => by
    obtain ⟨env1, e1, env2, e2, i2⟩ := st x xs env i
    refine loopF_rest J st xs env2 r ?_ i2
    rw [← e, List.map_cons, loopF, e1]
    dsimp only
    rw [e2]
/-- a loop that goes through all: I k, after k of them -/
theorem loopF_at {α : Type} {as : D → Env' → Option Env'} {body : MS} {h : AH} {f : α → D} {xs : List α} {env : Env'} {r : SRes} (hL : loopF as body (xs.map f) env h = r) (I : Nat → Env' → Prop) (h0 : I 0 env)
    (st : ∀ j x env, xs[j]? = some x → I j env → ∃ env1, as (f x) env = some env1 ∧ ∃ env2, body env1 h = .next env2 h ∧ I (j + 1) env2) : ∃ env', r = .next env' h ∧ I xs.length env' := by
  have := loopF_all (as := as) (body := body) (h := h) f I xs 0 env h0 fun j x env e i => by
    rw [Nat.zero_add] at i ⊢
    exact st j x env e i
  rw [hL, Nat.zero_add] at this
  exact this
/-- a loop that may return: after each turn on, or out by Ret -/
theorem loopF_ret {α : Type} {as : D → Env' → Option Env'} {body : MS} {h : AH} {f : α → D} (J : List α → Env' → Prop) (Ret : D → Prop) (st : ∀ x r env, J (x :: r) env → ∃ env1, as (f x) env = some env1 ∧ ((∃ env2, body env1 h = .next env2 h ∧ J r env2) ∨ ∃ d, body env1 h = .ret d h ∧ Ret d)) :
    ∀ (xs : List α) (env : Env') (r : SRes), loopF as body (xs.map f) env h = r → J xs env → (∃ env', r = .next env' h ∧ J [] env') ∨ ∃ d, r = .ret d h ∧ Ret d
  | [], env, r, e, i => .inl ⟨env, e.symm, i⟩
  | x :: xs, env, r, e, i => by
    obtain ⟨env1, e1, ⟨env2, e2, i2⟩ | ⟨d, e2, hd⟩⟩ := st x xs env i
    · refine loopF_ret J Ret st xs env2 r ?_ i2
      rw [← e, List.map_cons, loopF, e1]
      dsimp only
      rw [e2]
    · refine .inr ⟨d, ?_, hd⟩
      rw [← e, List.map_cons, loopF, e1]
      dsimp only
      rw [e2]
theorem loopW_at {t : M Bool} {body : MS} {h : AH} {fuel : Nat} {env : Env'} {r : SRes} (hL : loopW t body fuel env h = r) (S : Env' → Prop) (μ : Env' → Nat) (h0 : S env) (hf : μ env < fuel)
    (st : ∀ env, S env → t env h = .ok false h ∨ (t env h = .ok true h ∧ ∃ env2, body env h = .next env2 h ∧ S env2 ∧ μ env2 < μ env)) : ∃ env', r = .next env' h ∧ S env' ∧ t env' h = .ok false h := by
  have := loopW_meas (h := h) (t := t) (body := body) S μ st fuel env hf h0
  rw [hL] at this
  exact this
/-- a while told by a number that falls -/
theorem loopW_dn {t : M Bool} {body : MS} {h : AH} (J : Nat → Env' → Prop) (h0 : ∀ env, J 0 env → t env h = .ok false h) (st : ∀ n env, J (n + 1) env → t env h = .ok true h ∧ ∃ env2, body env h = .next env2 h ∧ J n env2) :
    ∀ (n fuel : Nat) (env : Env') (r : SRes), n < fuel → loopW t body fuel env h = r → J n env → ∃ env', r = .next env' h ∧ J 0 env'
  | n, 0, env, r, hf, _, _ => absurd hf (by omega)
  | 0, fuel + 1, env, r, hf, e, i => by
    refine ⟨env, ?_, i⟩
    rw [← e, loopW, h0 env i]
    rfl
  | n + 1, fuel + 1, env, r, hf, e, i => by
    obtain ⟨t1, env2, e2, i2⟩ := st n env i
    refine loopW_dn J h0 st n fuel env2 r (by omega) ?_ i2
    rw [← e, loopW, t1]
    show _ = (if true = true then (match body env h with | .next env2 h2 => loopW t body fuel env2 h2 | .cnt env2 h2 => loopW t body fuel env2 h2 | .brk env2 h2 => .next env2 h2 | r => r) else .next env h)
    rw [if_pos rfl, e2]
theorem lc_at {α : Type} {as : D → Env' → Option Env'} {t : M Bool} {e : M D} {env : Env'} {h : AH} {f : α → D} {xs : List α} {r : Res (List D)} (hL : lcLoop as t e (xs.map f) env h = r) (p : α → Bool) (g : α → D)
    (st : ∀ x, x ∈ xs → ∃ env1, as (f x) env = some env1 ∧ t env1 h = .ok (p x) h ∧ (p x = true → e env1 h = .ok (g x) h)) : r = .ok ((xs.filter p).map g) h := by rw [← hL]; exact lc_eq f p g xs st
theorem lc_mp {α : Type} {as : D → Env' → Option Env'} {e : M D} {env : Env'} {h : AH} {f : α → D} {xs : List α} {r : Res (List D)} (hL : lcLoop as (fun _ h => .ok true h) e (xs.map f) env h = r) (g : α → D)
    (st : ∀ x, x ∈ xs → ∃ env1, as (f x) env = some env1 ∧ e env1 h = .ok (g x) h) : r = .ok (xs.map g) h := by rw [← hL]; exact lc_map f g xs st
theorem b_rng2 (i j : Int) (h : (-1000000 ≤ i ∧ i ≤ 1000000) ∧ -1000000 ≤ j ∧ j ≤ 1000000) : rng2 [.int i, .int j] = some (rangeD i (j - i).toNat) := by rw [a_rng2, if_pos h]
theorem b_rng1 (j : Int) (h : -1000000 ≤ j ∧ j ≤ 1000000) : rng1 [.int j] = some (rangeD 0 j.toNat) := by rw [a_rng1, if_pos h]
end Fx

namespace Lw
open PySem L2 Fx
def top (i : Nat) : Stmt := PySem.Challenge.pw_placeround_k22_turns_heard.main.body.getD i (.Pass ⟨0, 0, 0, 0⟩)

structure Tx (K : PySem.W.Frag) (mg : Str → Option Value) : Prop where
  d__law_cell : ∃ fd, FunD K "_law_cell" "_law_cell" (defArgs (top 73)) (defBody (top 73)) (defScope (top 73)) [] [] (He.ga K "_law_cell") fd
  g__law_cell : mg "_law_cell" = some (.ref (He.ga K "_law_cell"))
  d__law_sizes : ∃ fd, FunD K "_law_sizes" "_law_sizes" (defArgs (top 80)) (defBody (top 80)) (defScope (top 80)) [] [] (He.ga K "_law_sizes") fd
  g__law_sizes : mg "_law_sizes" = some (.ref (He.ga K "_law_sizes"))
  d__law_pick : ∃ fd, FunD K "_law_pick" "_law_pick" (defArgs (top 75)) (defBody (top 75)) (defScope (top 75)) [] [] (He.ga K "_law_pick") fd
  g__law_pick : mg "_law_pick" = some (.ref (He.ga K "_law_pick"))
  d__law_seed : ∃ fd, FunD K "_law_seed" "_law_seed" (defArgs (top 74)) (defBody (top 74)) (defScope (top 74)) [] [] (He.ga K "_law_seed") fd
  g__law_seed : mg "_law_seed" = some (.ref (He.ga K "_law_seed"))
  d__law_deal : ∃ fd, FunD K "_law_deal" "_law_deal" (defArgs (top 76)) (defBody (top 76)) (defScope (top 76)) [] [] (He.ga K "_law_deal") fd
  g__law_deal : mg "_law_deal" = some (.ref (He.ga K "_law_deal"))
  d__law_asks : ∃ fd, FunD K "_law_asks" "_law_asks" (defArgs (top 77)) (defBody (top 77)) (defScope (top 77)) [] [] (He.ga K "_law_asks") fd
  g__law_asks : mg "_law_asks" = some (.ref (He.ga K "_law_asks"))
  d__law_turn : ∃ fd, FunD K "_law_turn" "_law_turn" (defArgs (top 78)) (defBody (top 78)) (defScope (top 78)) [] [] (He.ga K "_law_turn") fd
  g__law_turn : mg "_law_turn" = some (.ref (He.ga K "_law_turn"))
  d__law_turned : ∃ fd, FunD K "_law_turned" "_law_turned" (defArgs (top 81)) (defBody (top 81)) (defScope (top 81)) [] [] (He.ga K "_law_turned") fd
  g__law_turned : mg "_law_turned" = some (.ref (He.ga K "_law_turned"))
  d_is_within : ∃ fd, FunD K "is_within" "is_within" (defArgs (top 15)) (defBody (top 15)) (defScope (top 15)) [] [] (He.ga K "is_within") fd
  g_is_within : mg "is_within" = some (.ref (He.ga K "is_within"))
  d_look_size : ∃ fd, FunD K "look_size" "look_size" (defArgs (top 16)) (defBody (top 16)) (defScope (top 16)) [] [] (He.ga K "look_size") fd
  g_look_size : mg "look_size" = some (.ref (He.ga K "look_size"))
  d_look_many : ∃ fd, FunD K "look_many" "look_many" (defArgs (top 21)) (defBody (top 21)) (defScope (top 21)) [] [] (He.ga K "look_many") fd
  g_look_many : mg "look_many" = some (.ref (He.ga K "look_many"))
  d_look_asks : ∃ fd, FunD K "look_asks" "look_asks" (defArgs (top 19)) (defBody (top 19)) (defScope (top 19)) [] [] (He.ga K "look_asks") fd
  g_look_asks : mg "look_asks" = some (.ref (He.ga K "look_asks"))
  d_look_turns : ∃ fd, FunD K "look_turns" "look_turns" (defArgs (top 26)) (defBody (top 26)) (defScope (top 26)) [] [] (He.ga K "look_turns") fd
  g_look_turns : mg "look_turns" = some (.ref (He.ga K "look_turns"))
  d_every_deal : ∃ fd, FunD K "every_deal" "every_deal" (defArgs (top 24)) (defBody (top 24)) (defScope (top 24)) [] [] (He.ga K "every_deal") fd
  g_every_deal : mg "every_deal" = some (.ref (He.ga K "every_deal"))
  d_short_way : ∃ fd, FunD K "short_way" "short_way" (defArgs (top 22)) (defBody (top 22)) (defScope (top 22)) [] [] (He.ga K "short_way") fd
  g_short_way : mg "short_way" = some (.ref (He.ga K "short_way"))
  d_turns_told : ∃ fd, FunD K "turns_told" "turns_told" (defArgs (top 23)) (defBody (top 23)) (defScope (top 23)) [] [] (He.ga K "turns_told") fd
  g_turns_told : mg "turns_told" = some (.ref (He.ga K "turns_told"))
  d_heard_deals : ∃ fd, FunD K "heard_deals" "heard_deals" (defArgs (top 27)) (defBody (top 27)) (defScope (top 27)) [] [] (He.ga K "heard_deals") fd
  g_heard_deals : mg "heard_deals" = some (.ref (He.ga K "heard_deals"))
  d_deals_by : ∃ fd, FunD K "deals_by" "deals_by" (defArgs (top 28)) (defBody (top 28)) (defScope (top 28)) [] [] (He.ga K "deals_by") fd
  g_deals_by : mg "deals_by" = some (.ref (He.ga K "deals_by"))
  d_is_deal : ∃ fd, FunD K "is_deal" "is_deal" (defArgs (top 17)) (defBody (top 17)) (defScope (top 17)) [] [] (He.ga K "is_deal") fd
  g_is_deal : mg "is_deal" = some (.ref (He.ga K "is_deal"))
  d_look : ∃ fd, FunD K "look" "look" (defArgs (top 18)) (defBody (top 18)) (defScope (top 18)) [] [] (He.ga K "look") fd
  g_look : mg "look" = some (.ref (He.ga K "look"))
  d_parting : ∃ fd, FunD K "parting" "parting" (defArgs (top 30)) (defBody (top 30)) (defScope (top 30)) [] [] (He.ga K "parting") fd
  g_parting : mg "parting" = some (.ref (He.ga K "parting"))
  d__law_all_deals : ∃ fd, FunD K "_law_all_deals" "_law_all_deals" (defArgs (top 79)) (defBody (top 79)) (defScope (top 79)) [] [] (He.ga K "_law_all_deals") fd
  g__law_all_deals : mg "_law_all_deals" = some (.ref (He.ga K "_law_all_deals"))
  d_sure_places : ∃ fd, FunD K "sure_places" "sure_places" (defArgs (top 29)) (defBody (top 29)) (defScope (top 29)) [] [] (He.ga K "sure_places") fd
  g_sure_places : mg "sure_places" = some (.ref (He.ga K "sure_places"))
  d__law_called_then : ∃ fd, FunD K "_law_called_then" "_law_called_then" (defArgs (top 83)) (defBody (top 83)) (defScope (top 83)) [] [] (He.ga K "_law_called_then") fd
  g__law_called_then : mg "_law_called_then" = some (.ref (He.ga K "_law_called_then"))
  d__law_named : ∃ fd, FunD K "_law_named" "_law_named" (defArgs (top 84)) (defBody (top 84)) (defScope (top 84)) [] [] (He.ga K "_law_named") fd
  g__law_named : mg "_law_named" = some (.ref (He.ga K "_law_named"))
  d_law : ∃ fd, FunD K "law" "law" (defArgs (top 85)) (defBody (top 85)) (defScope (top 85)) [] [] (He.ga K "law") fd
  g_law : mg "law" = some (.ref (He.ga K "law"))
  b_bool : mg "bool" = none
  b_int : mg "int" = none
  b_isinstance : mg "isinstance" = none
  b_len : mg "len" = none
  b_list : mg "list" = none
  b_min : mg "min" = none
  b_range : mg "range" = none
  b_set : mg "set" = none
  b_tuple : mg "tuple" = none
  i_MOST_ASKS : ∃ t, mg "MOST_ASKS" = some (.int 24 t)
  i_MOST_PLACES : ∃ t, mg "MOST_PLACES" = some (.int 7 t)
  i_MOST_THINGS : ∃ t, mg "MOST_THINGS" = some (.int 6 t)
  isa : Isa K [.NoSize, .NoWeights, .NoDeal, .NoAsks, .NoThing, .NoPlace, .NoCount, .Nothing] [.NoSize, .NoWeights, .NoDeal, .NoAsks, .NoPlace, .NoCount, .NoThing]
  x_NoAsks : ExOk K mg .NoAsks
  x_NoCount : ExOk K mg .NoCount
  x_NoDeal : ExOk K mg .NoDeal
  x_NoPlace : ExOk K mg .NoPlace
  x_NoSize : ExOk K mg .NoSize
  x_NoThing : ExOk K mg .NoThing
  x_NoWeights : ExOk K mg .NoWeights
def m__law_cell : MS := (mSeq (mIfS (mCmp gLt (mVar 1) (mQ qLen (mSq (mVar 0)))) (mRet (mQ2 qAt (mSq (mVar 0)) (mVar 1))) mSkip) (mRet (mC (.int 0))))
def f__law_cell : List D → AH → Res D := callM 2 m__law_cell
theorem g__law_cell {P : Program} {w : World} {K : PySem.W.Frag} {mg : Str → Option Value} {base : Heap} (T : Tx K mg)  : Good P w K mg base "_law_cell" 1 2 f__law_cell := by
  obtain ⟨fd, F⟩ := T.d__law_cell
  have sc : FnScope ["script", "k"] ["script", "k"] (defScope (top 73)) := ⟨rfl, rfl, rfl, by decide +kernel, rfl, by decide +kernel, by decide +kernel⟩
  refine good_of (st := top 73) (k := 0) F T.g__law_cell (FunD.bindsA F fun _ _ _ _ _ _ us hl => match us, hl with | [_, _], _ => rfl) sc rfl (by decide) fun cdv A outer s H E hr => ?_
  unfold m__law_cell 
  exact (ss_cons (s_if (t_cmp op_lt sb_ci (e_var 1) (e_len T.b_len (q_val (e_var 0))) (nomark _)) (ss_one (s_ret (e_at (q_val (e_var 0)) (e_var 1)))) ss_nil) (ss_one (s_ret e_int)))
def m__law_sizes : MS := (mSeq (mSet 2 (mQ2 qAt (mSq (mLst (mDisp (mCons (mC (.int 2)) (mCons (mC (.int 3)) (mCons (mC (.int 4)) (mCons (mC (.int 5)) (mCons (mC (.int 4)) (mCons (mC (.int 5)) (mCons (mC (.int 6)) (mCons (mC (.int 7)) mNil))))))))))) (mBin gMod (mCallF f__law_cell (mCons (mVar 0) (mCons (mVar 1) mNil))) (mC (.int 8))))) (mRet (mTup (mCons (mVar 2) (mCons (mBin gAdd (mC (.int 1)) (mBin gMod (mCallF f__law_cell (mCons (mVar 0) (mCons (mBin gAdd (mVar 1) (mC (.int 1))) mNil))) (mFn fMin3q (mCons (mVar 2) (mCons (mC (.int 6)) (mCons (mQ2 qAt (mSq (mLst (mDisp (mCons (mC (.int 6)) (mCons (mC (.int 4)) (mCons (mC (.int 3)) mNil)))))) (mBin gAdd (mFn fInt (mCons (mVal (mCmp gGt (mVar 2) (mC (.int 5)))) mNil)) (mFn fInt (mCons (mVal (mCmp gGt (mVar 2) (mC (.int 6)))) mNil)))) mNil)))))) mNil)))))
def f__law_sizes : List D → AH → Res D := callM 3 m__law_sizes
theorem g__law_sizes {P : Program} {w : World} {K : PySem.W.Frag} {mg : Str → Option Value} {base : Heap} (T : Tx K mg) (G__law_cell : Good P w K mg base "_law_cell" 1 2 f__law_cell) : Good P w K mg base "_law_sizes" 2 2 f__law_sizes := by
  obtain ⟨fd, F⟩ := T.d__law_sizes
  have sc : FnScope ["script", "at", "size"] ["script", "at"] (defScope (top 80)) := ⟨rfl, rfl, rfl, by decide +kernel, rfl, by decide +kernel, by decide +kernel⟩
  refine good_of (st := top 80) (k := 1) F T.g__law_sizes (FunD.bindsA F fun _ _ _ _ _ _ us hl => match us, hl with | [_, _], _ => rfl) sc rfl (by decide) fun cdv A outer s H E hr => ?_
  unfold m__law_sizes 
  exact (ss_cons (s_set 2 sc.nd (e_at (q_val (e_lst (l_disp (a_cons e_int (a_cons e_int (a_cons e_int (a_cons e_int (a_cons e_int (a_cons e_int (a_cons e_int (a_cons e_int a_nil))))))))))) (e_mod (e_call G__law_cell (hr.mono (by omega)) (takes_of rfl rfl rfl rfl) (nA (nA nA0)) (a_cons (e_var 0) (a_cons (e_var 1) a_nil))) e_int))) (ss_one (s_ret (e_tup (a_cons (e_var 2) (a_cons (e_add e_int (e_mod (e_call G__law_cell (hr.mono (by omega)) (takes_of rfl rfl rfl rfl) (nA (nA nA0)) (a_cons (e_var 0) (a_cons (e_add (e_var 1) e_int) a_nil))) (e_min3 T.b_min (a_cons (e_var 2) (a_cons e_int (a_cons (e_at (q_val (e_lst (l_disp (a_cons e_int (a_cons e_int (a_cons e_int a_nil)))))) (e_add (e_toint T.b_int (a_cons (e_cmp op_gt sb_ci (e_var 2) e_int (nomark _)) a_nil)) (e_toint T.b_int (a_cons (e_cmp op_gt sb_ci (e_var 2) e_int (nomark _)) a_nil)))) a_nil)))))) a_nil))))))
def m__law_pick : MS := (mRet (mBin gMod (mBin gFdiv (mVar 0) (mC (.int 97))) (mVar 1)))
def f__law_pick : List D → AH → Res D := callM 2 m__law_pick
theorem g__law_pick {P : Program} {w : World} {K : PySem.W.Frag} {mg : Str → Option Value} {base : Heap} (T : Tx K mg)  : Good P w K mg base "_law_pick" 1 2 f__law_pick := by
  obtain ⟨fd, F⟩ := T.d__law_pick
  have sc : FnScope ["seed", "many"] ["seed", "many"] (defScope (top 75)) := ⟨rfl, rfl, rfl, by decide +kernel, rfl, by decide +kernel, by decide +kernel⟩
  refine good_of (st := top 75) (k := 0) F T.g__law_pick (FunD.bindsA F fun _ _ _ _ _ _ us hl => match us, hl with | [_, _], _ => rfl) sc rfl (by decide) fun cdv A outer s H E hr => ?_
  unfold m__law_pick 
  exact (ss_one (s_ret (e_mod (e_fdiv (e_var 0) e_int) (e_var 1))))
def m__law_seed : MS := (mRet (mBin gMod (mBin gPow (mBin gMod (mBin gAdd (mBin gAdd (mBin gMul (mVar 0) (mC (.int 1103515245))) (mBin gMul (mC (.int 7919)) (mVar 1))) (mC (.int 12345))) (mC (.int 2147483647))) (mC (.int 5))) (mC (.int 2147483647))))
def f__law_seed : List D → AH → Res D := callM 2 m__law_seed
theorem g__law_seed {P : Program} {w : World} {K : PySem.W.Frag} {mg : Str → Option Value} {base : Heap} (T : Tx K mg)  : Good P w K mg base "_law_seed" 1 2 f__law_seed := by
  obtain ⟨fd, F⟩ := T.d__law_seed
  have sc : FnScope ["seed", "k"] ["seed", "k"] (defScope (top 74)) := ⟨rfl, rfl, rfl, by decide +kernel, rfl, by decide +kernel, by decide +kernel⟩
  refine good_of (st := top 74) (k := 0) F T.g__law_seed (FunD.bindsA F fun _ _ _ _ _ _ us hl => match us, hl with | [_, _], _ => rfl) sc rfl (by decide) fun cdv A outer s H E hr => ?_
  unfold m__law_seed 
  exact (ss_one (s_ret (e_mod (e_pow (e_mod (e_add (e_add (e_mul (e_var 0) e_int) (e_mul e_int (e_var 1))) e_int) e_int) e_int) e_int)))
def m__law_deal : MS := (mSeq (mSetL 3 (mLRng (mVar 1))) (mSeq (mSetL 4 (mDisp mNil)) (mSeq (mFor (mFnL rng1 (mCons (mVar 2) mNil)) (asN 5) (mAppM 4 (mPopAt 3 (mCallF f__law_pick (mCons (mCallF f__law_seed (mCons (mVar 0) (mCons (mVar 5) mNil))) (mCons (mQ qLen (mOwn 3)) mNil)))))) (mRet (mQ qTuple (mOwn 4))))))
def f__law_deal : List D → AH → Res D := callM 6 m__law_deal
theorem g__law_deal {P : Program} {w : World} {K : PySem.W.Frag} {mg : Str → Option Value} {base : Heap} (T : Tx K mg) (G__law_pick : Good P w K mg base "_law_pick" 1 2 f__law_pick) (G__law_seed : Good P w K mg base "_law_seed" 1 2 f__law_seed) : Good P w K mg base "_law_deal" 2 3 f__law_deal := by
  obtain ⟨fd, F⟩ := T.d__law_deal
  have sc : FnScope ["seed", "size", "many", "free", "found", "k"] ["seed", "size", "many"] (defScope (top 76)) := ⟨rfl, rfl, rfl, by decide +kernel, rfl, by decide +kernel, by decide +kernel⟩
  refine good_of (st := top 76) (k := 1) F T.g__law_deal (FunD.bindsA F fun _ _ _ _ _ _ us hl => match us, hl with | [_, _, _], _ => rfl) sc rfl (by decide) fun cdv A outer s H E hr => ?_
  unfold m__law_deal 
  exact (ss_cons (s_setL 3 sc.nd (l_rng T.b_list T.b_range (e_var 1))) (ss_cons (s_setL 4 sc.nd (l_disp a_nil)) (ss_cons (s_for (passes_of rfl) (i_range1 T.b_range (a_cons (e_var 2) a_nil)) (pg_name (i := 5) sc.nd rfl (by first | exact Or.inl rfl | exact Or.inr rfl)) sg_name (ss_one (s_appM 4 (x_popAt 3 (e_call G__law_pick (hr.mono (by omega)) (takes_of rfl rfl rfl rfl) (nA (nA nA0)) (a_cons (e_call G__law_seed (hr.mono (by omega)) (takes_of rfl rfl rfl rfl) (nA (nA nA0)) (a_cons (e_var 0) (a_cons (e_var 5) a_nil))) (a_cons (e_len T.b_len (q_own 3)) a_nil))))))) (ss_one (s_ret (e_tuple T.b_tuple (q_own 4)))))))
def m__law_asks : MS := (mSeq (mSet 3 (mQ2 qAt (mSq (mLst (mDisp (mCons (mVar 1) (mCons (mC (.int 2)) (mCons (mC (.int 3)) mNil)))))) (mBin gMod (mBin gFdiv (mVar 0) (mC (.int 5))) (mC (.int 3))))) (mRet (mQ qTuple (mSq (mLst (mLc (mFnL rng1 (mCons (mVar 2) mNil)) [4] (asN 4) (fun _ h => .ok true h) (mCallF f__law_pick (mCons (mCallF f__law_seed (mCons (mVar 0) (mCons (mVar 4) mNil))) (mCons (mIf (mCmp gGt (mBin gMod (mVar 4) (mC (.int 5))) (mC (.int 0))) (mFn fMin2 (mCons (mVar 1) (mCons (mVar 3) mNil))) (mVar 1)) mNil)))))))))
def f__law_asks : List D → AH → Res D := callM 5 m__law_asks
theorem g__law_asks {P : Program} {w : World} {K : PySem.W.Frag} {mg : Str → Option Value} {base : Heap} (T : Tx K mg) (G__law_pick : Good P w K mg base "_law_pick" 1 2 f__law_pick) (G__law_seed : Good P w K mg base "_law_seed" 1 2 f__law_seed) : Good P w K mg base "_law_asks" 2 3 f__law_asks := by
  obtain ⟨fd, F⟩ := T.d__law_asks
  have sc : FnScope ["seed", "many", "long", "wide", "k"] ["seed", "many", "long"] (defScope (top 77)) := ⟨rfl, rfl, rfl, by decide +kernel, rfl, by decide +kernel, by decide +kernel⟩
  refine good_of (st := top 77) (k := 1) F T.g__law_asks (FunD.bindsA F fun _ _ _ _ _ _ us hl => match us, hl with | [_, _, _], _ => rfl) sc rfl (by decide) fun cdv A outer s H E hr => ?_
  unfold m__law_asks 
  exact (ss_cons (s_set 3 sc.nd (e_at (q_val (e_lst (l_disp (a_cons (e_var 1) (a_cons e_int (a_cons e_int a_nil)))))) (e_mod (e_fdiv (e_var 0) e_int) e_int))) (ss_one (s_ret (e_tuple T.b_tuple (q_val (e_lst (l_lc (own := [("k", 4)]) sc.nd (i_range1 T.b_range (a_cons (e_var 2) a_nil)) (blkOk_by (N := ["seed", "many", "long", "wide", "k"]) (sc := defScope (top 77)) (by decide +kernel)) (fun _ _ _ _ _ => (pg_name (i := 4) sc.nd rfl (by first | exact Or.inl rfl | exact Or.inr rfl))) (sgc_name (by decide)) (fun _ _ _ _ _ => ts_nil) (fun _ _ _ _ _ => (e_call G__law_pick (hr.mono (by omega)) takes0 (nA (nA nA0)) (a_cons (e_call G__law_seed (hr.mono (by omega)) takes0 (nA (nA nA0)) (a_cons (e_var 0) (a_cons (e_var 4) a_nil))) (a_cons (e_if (t_cmp op_gt sb_ci (e_mod (e_var 4) e_int) e_int (nomark _)) (e_min2 T.b_min (a_cons (e_var 1) (a_cons (e_var 3) a_nil))) (e_var 1)) a_nil)))))))))))
def m__law_turn : MS := (mSeq (mSet 3 (mC (.int 0))) (mSeq (mWhile (fun _ _ => 1000) (mCmp gNe (mBin gMod (mBin gAdd (mVar 1) (mVar 3)) (mVar 0)) (mVar 2)) (mAugI 3 (fun i j => i + j) (mC (.int 1)))) (mRet (mIf (mCmp gLe (mVar 3) (mBin gSub (mVar 0) (mVar 3))) (mVar 3) (mBin gSub (mVar 3) (mVar 0))))))
def f__law_turn : List D → AH → Res D := callM 4 m__law_turn
theorem g__law_turn {P : Program} {w : World} {K : PySem.W.Frag} {mg : Str → Option Value} {base : Heap} (T : Tx K mg)  : Good P w K mg base "_law_turn" 1 3 f__law_turn := by
  obtain ⟨fd, F⟩ := T.d__law_turn
  have sc : FnScope ["size", "one", "other", "on"] ["size", "one", "other"] (defScope (top 78)) := ⟨rfl, rfl, rfl, by decide +kernel, rfl, by decide +kernel, by decide +kernel⟩
  refine good_of (st := top 78) (k := 0) F T.g__law_turn (FunD.bindsA F fun _ _ _ _ _ _ us hl => match us, hl with | [_, _, _], _ => rfl) sc rfl (by decide) fun cdv A outer s H E hr => ?_
  unfold m__law_turn 
  exact (ss_cons (s_set 3 sc.nd e_int) (ss_cons (s_while (fun _ _ => 1000) (passes_of rfl) (t_cmp (op_neD hr.units) sb_ne (e_mod (e_add (e_var 1) (e_var 3)) (e_var 0)) (e_var 2) (nomark _)) (ss_one (s_aug 3 sc.nd e_int ip_add))) (ss_one (s_ret (e_if (t_cmp op_le sb_ci (e_var 3) (e_sub (e_var 0) (e_var 3)) (nomark _)) (e_var 3) (e_sub (e_var 3) (e_var 0)))))))
def m__law_turned : MS := (mSeq (mParL 3 [4] (mDisp mNil) (mCons (mC (.int 0)) mNil)) (mSeq (mFor (mIt seqItems (mVar 2)) (asN 5) (mSeq (mApp 3 (mCallF f__law_turn (mCons (mVar 0) (mCons (mVar 4) (mCons (mQ2 qAt (mSq (mVar 1)) (mVar 5)) mNil))))) (mSet 4 (mQ2 qAt (mSq (mVar 1)) (mVar 5))))) (mRetO 3)))
def f__law_turned : List D → AH → Res D := callM 6 m__law_turned
theorem g__law_turned {P : Program} {w : World} {K : PySem.W.Frag} {mg : Str → Option Value} {base : Heap} (T : Tx K mg) (G__law_turn : Good P w K mg base "_law_turn" 1 3 f__law_turn) : Good P w K mg base "_law_turned" 2 3 f__law_turned := by
  obtain ⟨fd, F⟩ := T.d__law_turned
  have sc : FnScope ["size", "deal", "asks", "found", "here", "thing"] ["size", "deal", "asks"] (defScope (top 81)) := ⟨rfl, rfl, rfl, by decide +kernel, rfl, by decide +kernel, by decide +kernel⟩
  refine good_of (st := top 81) (k := 1) F T.g__law_turned (FunD.bindsA F fun _ _ _ _ _ _ us hl => match us, hl with | [_, _, _], _ => rfl) sc rfl (by decide) fun cdv A outer s H E hr => ?_
  unfold m__law_turned 
  exact (ss_cons (s_parL2 3 4 sc.nd (l_disp a_nil) (a_cons e_int a_nil)) (ss_cons (s_for (passes_of rfl) (i_seq (e_var 2)) (pg_name (i := 5) sc.nd rfl (by first | exact Or.inl rfl | exact Or.inr rfl)) sg_name (ss_cons (s_app 3 (e_call G__law_turn (hr.mono (by omega)) (takes_of rfl rfl rfl rfl) (nA (nA (nA nA0))) (a_cons (e_var 0) (a_cons (e_var 4) (a_cons (e_at (q_val (e_var 1)) (e_var 5)) a_nil))))) (ss_one (s_set 4 sc.nd (e_at (q_val (e_var 1)) (e_var 5)))))) (ss_one (s_retO 3))))
def n__law_turned : List D → AH → Res (List D) := callN 6 m__law_turned
theorem gn__law_turned {P : Program} {w : World} {K : PySem.W.Frag} {mg : Str → Option Value} {base : Heap} (T : Tx K mg) (G__law_turn : Good P w K mg base "_law_turn" 1 3 f__law_turn) : GoodN P w K mg base "_law_turned" 2 3 n__law_turned := by
  obtain ⟨fd, F⟩ := T.d__law_turned
  have sc : FnScope ["size", "deal", "asks", "found", "here", "thing"] ["size", "deal", "asks"] (defScope (top 81)) := ⟨rfl, rfl, rfl, by decide +kernel, rfl, by decide +kernel, by decide +kernel⟩
  refine goodN_of (st := top 81) (k := 1) F T.g__law_turned (FunD.bindsA F fun _ _ _ _ _ _ us hl => match us, hl with | [_, _, _], _ => rfl) sc rfl (by decide) fun cdv A outer s H E hr => ?_
  unfold m__law_turned
  exact (ss_cons (s_parL2 3 4 sc.nd (l_disp a_nil) (a_cons e_int a_nil)) (ss_cons (s_for (passes_of rfl) (i_seq (e_var 2)) (pg_name (i := 5) sc.nd rfl (by first | exact Or.inl rfl | exact Or.inr rfl)) sg_name (ss_cons (s_app 3 (e_call G__law_turn (hr.mono (by omega)) (takes_of rfl rfl rfl rfl) (nA (nA (nA nA0))) (a_cons (e_var 0) (a_cons (e_var 4) (a_cons (e_at (q_val (e_var 1)) (e_var 5)) a_nil))))) (ss_one (s_set 4 sc.nd (e_at (q_val (e_var 1)) (e_var 5)))))) (ss_one (s_retO 3))))
def m_is_within : MS := (mRet (mVal (mAnd (mTst (gIsi "int") (mVar 0)) (mAnd (mNot (mTst (gIsi "bool") (mVar 0))) (mChain gLe gLe (mVar 1) (mVar 0) (mVar 2))))))
def f_is_within : List D → AH → Res D := callM 3 m_is_within
theorem g_is_within {P : Program} {w : World} {K : PySem.W.Frag} {mg : Str → Option Value} {base : Heap} (T : Tx K mg)  : Good P w K mg base "is_within" 1 3 f_is_within := by
  obtain ⟨fd, F⟩ := T.d_is_within
  have sc : FnScope ["thing", "low", "high"] ["thing", "low", "high"] (defScope (top 15)) := ⟨rfl, rfl, rfl, by decide +kernel, rfl, by decide +kernel, by decide +kernel⟩
  refine good_of (st := top 15) (k := 0) F T.g_is_within (FunD.bindsA F fun _ _ _ _ _ _ us hl => match us, hl with | [_, _, _], _ => rfl) sc rfl (by decide) fun cdv A outer s H E hr => ?_
  unfold m_is_within 
  exact (ss_one (s_ret (e_and (e_isi (e_var 0) T.b_isinstance T.b_int bt_int k_int) (e_and (e_not (e_isi (e_var 0) T.b_isinstance T.b_bool bt_bool k_bool)) (e_one (e_chain op_le op_le sb_ci sb_ci (e_var 1) (e_var 0) (e_var 2)))))))
def m_look_size : MS := (mIfS (mNot (mTst truthD (mCallF f_is_within (mCons (mVar 0) (mCons (mC (.int 2)) (mCons (mC (.int 7)) mNil)))))) (mRaise .NoSize) mSkip)
def f_look_size : List D → AH → Res D := callM 1 m_look_size
theorem g_look_size {P : Program} {w : World} {K : PySem.W.Frag} {mg : Str → Option Value} {base : Heap} (T : Tx K mg) (G_is_within : Good P w K mg base "is_within" 1 3 f_is_within) : Good P w K mg base "look_size" 2 1 f_look_size := by
  obtain ⟨fd, F⟩ := T.d_look_size
  have sc : FnScope ["size"] ["size"] (defScope (top 16)) := ⟨rfl, rfl, rfl, by decide +kernel, rfl, by decide +kernel, by decide +kernel⟩
  refine good_of (st := top 16) (k := 1) F T.g_look_size (FunD.bindsA F fun _ _ _ _ _ _ us hl => match us, hl with | [_], _ => rfl) sc rfl (by decide) fun cdv A outer s H E hr => ?_
  unfold m_look_size 
  exact (ss_one (s_if (t_not (t_truth (e_call G_is_within (hr.mono (by omega)) (takes_of rfl rfl rfl rfl) (nA (nA (nA nA0))) (a_cons (e_var 0) (a_cons e_int (a_cons (e_gint T.i_MOST_PLACES) a_nil)))))) (ss_one (s_raise .NoSize T.x_NoSize (takes_of rfl rfl rfl rfl))) ss_nil))
def m_look_many : MS := (mSeq (mDrop (mCallF f_look_size (mCons (mVar 0) mNil))) (mIfS (mNot (mTst truthD (mCallF f_is_within (mCons (mVar 1) (mCons (mC (.int 1)) (mCons (mFn fMin2 (mCons (mVar 0) (mCons (mC (.int 6)) mNil))) mNil)))))) (mRaise .NoWeights) mSkip))
def f_look_many : List D → AH → Res D := callM 2 m_look_many
theorem g_look_many {P : Program} {w : World} {K : PySem.W.Frag} {mg : Str → Option Value} {base : Heap} (T : Tx K mg) (G_look_size : Good P w K mg base "look_size" 2 1 f_look_size) (G_is_within : Good P w K mg base "is_within" 1 3 f_is_within) : Good P w K mg base "look_many" 3 2 f_look_many := by
  obtain ⟨fd, F⟩ := T.d_look_many
  have sc : FnScope ["size", "many"] ["size", "many"] (defScope (top 21)) := ⟨rfl, rfl, rfl, by decide +kernel, rfl, by decide +kernel, by decide +kernel⟩
  refine good_of (st := top 21) (k := 2) F T.g_look_many (FunD.bindsA F fun _ _ _ _ _ _ us hl => match us, hl with | [_, _], _ => rfl) sc rfl (by decide) fun cdv A outer s H E hr => ?_
  unfold m_look_many 
  exact (ss_cons (s_expr (e_call G_look_size (hr.mono (by omega)) (takes_of rfl rfl rfl rfl) (nA nA0) (a_cons (e_var 0) a_nil))) (ss_one (s_if (t_not (t_truth (e_call G_is_within (hr.mono (by omega)) (takes_of rfl rfl rfl rfl) (nA (nA (nA nA0))) (a_cons (e_var 1) (a_cons e_int (a_cons (e_min2 T.b_min (a_cons (e_var 0) (a_cons (e_gint T.i_MOST_THINGS) a_nil))) a_nil)))))) (ss_one (s_raise .NoWeights T.x_NoWeights (takes_of rfl rfl rfl rfl))) ss_nil)))
def m_look_asks : MS := (mIfS (mOr (mNot (mTst (gIsi "tuple") (mVar 1))) (mOr (mCmp gGt (mQ qLen (mSq (mVar 1))) (mC (.int 24))) (mTst truthD (mLst (mLc (mIt seqItems (mVar 1)) [2] (asN 2) (mNot (mTst truthD (mCallF f_is_within (mCons (mVar 2) (mCons (mC (.int 0)) (mCons (mBin gSub (mVar 0) (mC (.int 1))) mNil)))))) (mVar 2)))))) (mRaise .NoAsks) mSkip)
def f_look_asks : List D → AH → Res D := callM 3 m_look_asks
theorem g_look_asks {P : Program} {w : World} {K : PySem.W.Frag} {mg : Str → Option Value} {base : Heap} (T : Tx K mg) (G_is_within : Good P w K mg base "is_within" 1 3 f_is_within) : Good P w K mg base "look_asks" 2 2 f_look_asks := by
  obtain ⟨fd, F⟩ := T.d_look_asks
  have sc : FnScope ["many", "asks", "one"] ["many", "asks"] (defScope (top 19)) := ⟨rfl, rfl, rfl, by decide +kernel, rfl, by decide +kernel, by decide +kernel⟩
  refine good_of (st := top 19) (k := 1) F T.g_look_asks (FunD.bindsA F fun _ _ _ _ _ _ us hl => match us, hl with | [_, _], _ => rfl) sc rfl (by decide) fun cdv A outer s H E hr => ?_
  unfold m_look_asks 
  exact (ss_one (s_if (w_or (t_not (t_val (e_isi (e_var 1) T.b_isinstance T.b_tuple bt_tuple k_tuple))) (w_or (t_cmp op_gt sb_ci (e_len T.b_len (q_val (e_var 1))) (e_gint T.i_MOST_ASKS) (nomark _)) (w_or1 (t_truth (e_lst (l_lc (own := [("one", 2)]) sc.nd (i_seq (e_var 1)) (blkOk_by (N := ["many", "asks", "one"]) (sc := defScope (top 19)) (by decide +kernel)) (fun _ _ _ _ _ => (pg_name (i := 2) sc.nd rfl (by first | exact Or.inl rfl | exact Or.inr rfl))) (sgc_name (by decide)) (fun _ _ _ _ _ => (pts_one (t_not (t_truth (e_call G_is_within (hr.mono (by omega)) takes0 (nA (nA (nA nA0))) (a_cons (e_var 2) (a_cons e_int (a_cons (e_sub (e_var 0) e_int) a_nil)))))))) (fun _ _ _ _ _ => (e_var 2)))))))).pt (ss_one (s_raise .NoAsks T.x_NoAsks (takes_of rfl rfl rfl rfl))) ss_nil))
def m_look_turns : MS := (mSeq (mIfS (mOr (mNot (mTst (gIsi "list") (mVar 1))) (mCmp gNe (mQ qLen (mSq (mVar 1))) (mQ qLen (mSq (mVar 0))))) (mRaise .NoCount) mSkip) (mIfS (mTst truthD (mLst (mLc (mIt seqItems (mVar 1)) [2] (asN 2) (mOr (mNot (mTst (gIsi "int") (mVar 2))) (mTst (gIsi "bool") (mVar 2))) (mVar 2)))) (mRaise .NoCount) mSkip))
def f_look_turns : List D → AH → Res D := callM 3 m_look_turns
theorem g_look_turns {P : Program} {w : World} {K : PySem.W.Frag} {mg : Str → Option Value} {base : Heap} (T : Tx K mg)  : Good P w K mg base "look_turns" 1 2 f_look_turns := by
  obtain ⟨fd, F⟩ := T.d_look_turns
  have sc : FnScope ["asks", "turns", "one"] ["asks", "turns"] (defScope (top 26)) := ⟨rfl, rfl, rfl, by decide +kernel, rfl, by decide +kernel, by decide +kernel⟩
  refine good_of (st := top 26) (k := 0) F T.g_look_turns (FunD.bindsA F fun _ _ _ _ _ _ us hl => match us, hl with | [_, _], _ => rfl) sc rfl (by decide) fun cdv A outer s H E hr => ?_
  unfold m_look_turns 
  exact (ss_cons (s_if (w_or (t_not (t_val (e_isi (e_var 1) T.b_isinstance T.b_list bt_list k_list))) (w_or1 (t_cmp (op_neD hr.units) sb_ne (e_len T.b_len (q_val (e_var 1))) (e_len T.b_len (q_val (e_var 0))) (nomark _)))).pt (ss_one (s_raise .NoCount T.x_NoCount (takes_of rfl rfl rfl rfl))) ss_nil) (ss_one (s_if (t_truth (e_lst (l_lc (own := [("one", 2)]) sc.nd (i_seq (e_var 1)) (blkOk_by (N := ["asks", "turns", "one"]) (sc := defScope (top 26)) (by decide +kernel)) (fun _ _ _ _ _ => (pg_name (i := 2) sc.nd rfl (by first | exact Or.inl rfl | exact Or.inr rfl))) (sgc_name (by decide)) (fun _ _ _ _ _ => (pts_one (w_or (t_not (t_val (e_isi (e_var 2) T.b_isinstance T.b_int bt_int k_int))) (w_or1 (t_val (e_isi (e_var 2) T.b_isinstance T.b_bool bt_bool k_bool)))).pt)) (fun _ _ _ _ _ => (e_var 2))))) (ss_one (s_raise .NoCount T.x_NoCount (takes_of rfl rfl rfl rfl))) ss_nil)))
def m_every_deal : MS := (mSeq (mSet 2 (mLst (mDisp (mCons (mTup mNil) mNil)))) (mSeq (mFor (mFnL rng1 (mCons (mVar 1) mNil)) (asN 3) (mSeq (mSetL 4 (mDisp mNil)) (mSeq (mFor (mIt seqItems (mVar 2)) (asN 5) (mExt 4 (mLst (mLc (mFnL rng1 (mCons (mVar 0) mNil)) [6] (asN 6) (m2Q qNotIn (mVar 6) (mSq (mVar 5))) (mBin gAdd (mVar 5) (mTup (mCons (mVar 6) mNil))))))) (mFrz 4 (mSet 2 (mVar 4)))))) (mRet (mVar 2))))
def f_every_deal : List D → AH → Res D := callM 7 m_every_deal
theorem g_every_deal {P : Program} {w : World} {K : PySem.W.Frag} {mg : Str → Option Value} {base : Heap} (T : Tx K mg)  : Good P w K mg base "every_deal" 1 2 f_every_deal := by
  obtain ⟨fd, F⟩ := T.d_every_deal
  have sc : FnScope ["size", "many", "found", "thing", "longer", "deal", "place"] ["size", "many"] (defScope (top 24)) := ⟨rfl, rfl, rfl, by decide +kernel, rfl, by decide +kernel, by decide +kernel⟩
  refine good_of (st := top 24) (k := 0) F T.g_every_deal (FunD.bindsA F fun _ _ _ _ _ _ us hl => match us, hl with | [_, _], _ => rfl) sc rfl (by decide) fun cdv A outer s H E hr => ?_
  unfold m_every_deal 
  exact (ss_cons (s_set 2 sc.nd (e_lst (l_disp (a_cons (e_tup a_nil) a_nil)))) (ss_cons (s_for (passes_of rfl) (i_range1 T.b_range (a_cons (e_var 1) a_nil)) (pg_name (i := 3) sc.nd rfl (by first | exact Or.inl rfl | exact Or.inr rfl)) sg_name (ss_cons (s_setL 4 sc.nd (l_disp a_nil)) (ss_cons (s_for (passes_of rfl) (i_seq (e_var 2)) (pg_name (i := 5) sc.nd rfl (by first | exact Or.inl rfl | exact Or.inr rfl)) sg_name (ss_one (s_ext 4 (e_lst (l_lc (own := [("place", 6)]) sc.nd (i_range1 T.b_range (a_cons (e_var 0) a_nil)) (blkOk_by (N := ["size", "many", "found", "thing", "longer", "deal", "place"]) (sc := defScope (top 24)) (by decide +kernel)) (fun _ _ _ _ _ => (pg_name (i := 6) sc.nd rfl (by first | exact Or.inl rfl | exact Or.inr rfl))) (sgc_name (by decide)) (fun _ _ _ _ _ => (pts_one (t_notin hr (e_var 6) (q_val (e_var 5))))) (fun _ _ _ _ _ => (e_add (e_var 5) (e_tup (a_cons (e_var 6) a_nil))))))))) (ss_frz 4 (ss_one (s_set 2 sc.nd (e_var 4))))))) (ss_one (s_ret (e_var 2)))))
def m_short_way : MS := (mSeq (mSet 3 (mBin gMod (mBin gSub (mVar 2) (mVar 1)) (mVar 0))) (mRet (mIf (mCmp gLe (mBin gMul (mC (.int 2)) (mVar 3)) (mVar 0)) (mVar 3) (mBin gSub (mVar 3) (mVar 0)))))
def f_short_way : List D → AH → Res D := callM 4 m_short_way
theorem g_short_way {P : Program} {w : World} {K : PySem.W.Frag} {mg : Str → Option Value} {base : Heap} (T : Tx K mg)  : Good P w K mg base "short_way" 1 3 f_short_way := by
  obtain ⟨fd, F⟩ := T.d_short_way
  have sc : FnScope ["size", "one", "other", "ahead"] ["size", "one", "other"] (defScope (top 22)) := ⟨rfl, rfl, rfl, by decide +kernel, rfl, by decide +kernel, by decide +kernel⟩
  refine good_of (st := top 22) (k := 0) F T.g_short_way (FunD.bindsA F fun _ _ _ _ _ _ us hl => match us, hl with | [_, _, _], _ => rfl) sc rfl (by decide) fun cdv A outer s H E hr => ?_
  unfold m_short_way 
  exact (ss_cons (s_set 3 sc.nd (e_mod (e_sub (e_var 2) (e_var 1)) (e_var 0))) (ss_one (s_ret (e_if (t_cmp op_le sb_ci (e_mul e_int (e_var 3)) (e_var 0) (nomark _)) (e_var 3) (e_sub (e_var 3) (e_var 0))))))
def m_turns_told : MS := (mSeq (mSetL 3 (mDisp mNil)) (mSeq (mSet 4 (mC (.int 0))) (mSeq (mFor (mIt seqItems (mVar 2)) (asN 5) (mSeq (mApp 3 (mCallF f_short_way (mCons (mVar 0) (mCons (mVar 4) (mCons (mQ2 qAt (mSq (mVar 1)) (mVar 5)) mNil))))) (mSet 4 (mQ2 qAt (mSq (mVar 1)) (mVar 5))))) (mRetO 3))))
def f_turns_told : List D → AH → Res D := callM 6 m_turns_told
theorem g_turns_told {P : Program} {w : World} {K : PySem.W.Frag} {mg : Str → Option Value} {base : Heap} (T : Tx K mg) (G_short_way : Good P w K mg base "short_way" 1 3 f_short_way) : Good P w K mg base "turns_told" 2 3 f_turns_told := by
  obtain ⟨fd, F⟩ := T.d_turns_told
  have sc : FnScope ["size", "deal", "asks", "found", "here", "thing"] ["size", "deal", "asks"] (defScope (top 23)) := ⟨rfl, rfl, rfl, by decide +kernel, rfl, by decide +kernel, by decide +kernel⟩
  refine good_of (st := top 23) (k := 1) F T.g_turns_told (FunD.bindsA F fun _ _ _ _ _ _ us hl => match us, hl with | [_, _, _], _ => rfl) sc rfl (by decide) fun cdv A outer s H E hr => ?_
  unfold m_turns_told 
  exact (ss_cons (s_setL 3 sc.nd (l_disp a_nil)) (ss_cons (s_set 4 sc.nd e_int) (ss_cons (s_for (passes_of rfl) (i_seq (e_var 2)) (pg_name (i := 5) sc.nd rfl (by first | exact Or.inl rfl | exact Or.inr rfl)) sg_name (ss_cons (s_app 3 (e_call G_short_way (hr.mono (by omega)) (takes_of rfl rfl rfl rfl) (nA (nA (nA nA0))) (a_cons (e_var 0) (a_cons (e_var 4) (a_cons (e_at (q_val (e_var 1)) (e_var 5)) a_nil))))) (ss_one (s_set 4 sc.nd (e_at (q_val (e_var 1)) (e_var 5)))))) (ss_one (s_retO 3)))))
def m_heard_deals : MS := (mRetL (mLc (mIt seqItems (mCallF f_every_deal (mCons (mVar 0) (mCons (mVar 1) mNil)))) [4] (asN 4) (mCmp gEq (mCallF f_turns_told (mCons (mVar 0) (mCons (mVar 4) (mCons (mVar 2) mNil)))) (mVar 3)) (mVar 4)))
def f_heard_deals : List D → AH → Res D := callM 5 m_heard_deals
theorem g_heard_deals {P : Program} {w : World} {K : PySem.W.Frag} {mg : Str → Option Value} {base : Heap} (T : Tx K mg) (G_every_deal : Good P w K mg base "every_deal" 1 2 f_every_deal) (G_turns_told : Good P w K mg base "turns_told" 2 3 f_turns_told) : Good P w K mg base "heard_deals" 3 4 f_heard_deals := by
  obtain ⟨fd, F⟩ := T.d_heard_deals
  have sc : FnScope ["size", "many", "asks", "turns", "deal"] ["size", "many", "asks", "turns"] (defScope (top 27)) := ⟨rfl, rfl, rfl, by decide +kernel, rfl, by decide +kernel, by decide +kernel⟩
  refine good_of (st := top 27) (k := 2) F T.g_heard_deals (FunD.bindsA F fun _ _ _ _ _ _ us hl => match us, hl with | [_, _, _, _], _ => rfl) sc rfl (by decide) fun cdv A outer s H E hr => ?_
  unfold m_heard_deals 
  exact (ss_one (s_retL (l_lc (own := [("deal", 4)]) sc.nd (i_seq (e_call G_every_deal (hr.mono (by omega)) (takes_of rfl rfl rfl rfl) (nA (nA nA0)) (a_cons (e_var 0) (a_cons (e_var 1) a_nil)))) (blkOk_by (N := ["size", "many", "asks", "turns", "deal"]) (sc := defScope (top 27)) (by decide +kernel)) (fun _ _ _ _ _ => (pg_name (i := 4) sc.nd rfl (by first | exact Or.inl rfl | exact Or.inr rfl))) (sgc_name (by decide)) (fun _ _ _ _ _ => (pts_one (t_cmp (op_eqD hr.units) sb_eq (e_call G_turns_told (hr.mono (by omega)) takes0 (nA (nA (nA nA0))) (a_cons (e_var 0) (a_cons (e_var 4) (a_cons (e_var 2) a_nil)))) (e_var 3) (nomark _)))) (fun _ _ _ _ _ => (e_var 4)))))
def m_deals_by : MS := (mSeq (mDrop (mCallF f_look_many (mCons (mVar 0) (mCons (mVar 1) mNil)))) (mSeq (mDrop (mCallF f_look_asks (mCons (mVar 1) (mCons (mVar 2) mNil)))) (mSeq (mDrop (mCallF f_look_turns (mCons (mVar 2) (mCons (mVar 3) mNil)))) (mRet (mCallF f_heard_deals (mCons (mVar 0) (mCons (mVar 1) (mCons (mVar 2) (mCons (mVar 3) mNil)))))))))
def f_deals_by : List D → AH → Res D := callM 4 m_deals_by
theorem g_deals_by {P : Program} {w : World} {K : PySem.W.Frag} {mg : Str → Option Value} {base : Heap} (T : Tx K mg) (G_look_many : Good P w K mg base "look_many" 3 2 f_look_many) (G_look_asks : Good P w K mg base "look_asks" 2 2 f_look_asks) (G_look_turns : Good P w K mg base "look_turns" 1 2 f_look_turns) (G_heard_deals : Good P w K mg base "heard_deals" 3 4 f_heard_deals) : Good P w K mg base "deals_by" 4 4 f_deals_by := by
  obtain ⟨fd, F⟩ := T.d_deals_by
  have sc : FnScope ["size", "many", "asks", "turns"] ["size", "many", "asks", "turns"] (defScope (top 28)) := ⟨rfl, rfl, rfl, by decide +kernel, rfl, by decide +kernel, by decide +kernel⟩
  refine good_of (st := top 28) (k := 3) F T.g_deals_by (FunD.bindsA F fun _ _ _ _ _ _ us hl => match us, hl with | [_, _, _, _], _ => rfl) sc rfl (by decide) fun cdv A outer s H E hr => ?_
  unfold m_deals_by 
  exact (ss_cons (s_expr (e_call G_look_many (hr.mono (by omega)) (takes_of rfl rfl rfl rfl) (nA (nA nA0)) (a_cons (e_var 0) (a_cons (e_var 1) a_nil)))) (ss_cons (s_expr (e_call G_look_asks (hr.mono (by omega)) (takes_of rfl rfl rfl rfl) (nA (nA nA0)) (a_cons (e_var 1) (a_cons (e_var 2) a_nil)))) (ss_cons (s_expr (e_call G_look_turns (hr.mono (by omega)) (takes_of rfl rfl rfl rfl) (nA (nA nA0)) (a_cons (e_var 2) (a_cons (e_var 3) a_nil)))) (ss_one (s_ret (e_call G_heard_deals (hr.mono (by omega)) (takes_of rfl rfl rfl rfl) (nA (nA (nA (nA nA0)))) (a_cons (e_var 0) (a_cons (e_var 1) (a_cons (e_var 2) (a_cons (e_var 3) a_nil))))))))))
def m_is_deal : MS := (mSeq (mIfS (mOr (mNot (mTst (gIsi "tuple") (mVar 1))) (mNot (mChain gLe gLe (mC (.int 1)) (mQ qLen (mSq (mVar 1))) (mC (.int 6))))) (mRet (mC (.bl false))) mSkip) (mRet (mVal (mAnd (mNot (mTst truthD (mLst (mLc (mIt seqItems (mVar 1)) [2] (asN 2) (mNot (mTst truthD (mCallF f_is_within (mCons (mVar 2) (mCons (mC (.int 0)) (mCons (mBin gSub (mVar 0) (mC (.int 1))) mNil)))))) (mVar 2))))) (mCmp gEq (mQ qLenSet (mSq (mVar 1))) (mQ qLen (mSq (mVar 1))))))))
def f_is_deal : List D → AH → Res D := callM 3 m_is_deal
theorem g_is_deal {P : Program} {w : World} {K : PySem.W.Frag} {mg : Str → Option Value} {base : Heap} (T : Tx K mg) (G_is_within : Good P w K mg base "is_within" 1 3 f_is_within) : Good P w K mg base "is_deal" 2 2 f_is_deal := by
  obtain ⟨fd, F⟩ := T.d_is_deal
  have sc : FnScope ["size", "thing", "place"] ["size", "thing"] (defScope (top 17)) := ⟨rfl, rfl, rfl, by decide +kernel, rfl, by decide +kernel, by decide +kernel⟩
  refine good_of (st := top 17) (k := 1) F T.g_is_deal (FunD.bindsA F fun _ _ _ _ _ _ us hl => match us, hl with | [_, _], _ => rfl) sc rfl (by decide) fun cdv A outer s H E hr => ?_
  unfold m_is_deal 
  exact (ss_cons (s_if (w_or (t_not (t_val (e_isi (e_var 1) T.b_isinstance T.b_tuple bt_tuple k_tuple))) (w_or1 (t_not (t_chain op_le op_le sb_ci sb_ci e_int (e_len T.b_len (q_val (e_var 1))) (e_gint T.i_MOST_THINGS))))).pt (ss_one (s_ret e_bl)) ss_nil) (ss_one (s_ret (e_and (e_notT (e_lst (l_lc (own := [("place", 2)]) sc.nd (i_seq (e_var 1)) (blkOk_by (N := ["size", "thing", "place"]) (sc := defScope (top 17)) (by decide +kernel)) (fun _ _ _ _ _ => (pg_name (i := 2) sc.nd rfl (by first | exact Or.inl rfl | exact Or.inr rfl))) (sgc_name (by decide)) (fun _ _ _ _ _ => (pts_one (t_not (t_truth (e_call G_is_within (hr.mono (by omega)) takes0 (nA (nA (nA nA0))) (a_cons (e_var 2) (a_cons e_int (a_cons (e_sub (e_var 0) e_int) a_nil)))))))) (fun _ _ _ _ _ => (e_var 2))))) (e_one (e_cmp (op_eqD hr.units) sb_eq (e_lenSet T.b_len T.b_set (q_val (e_var 1))) (e_len T.b_len (q_val (e_var 1))) (nomark _)))))))
def m_look : MS := (mSeq (mDrop (mCallF f_look_size (mCons (mVar 0) mNil))) (mIfS (mNot (mTst truthD (mCallF f_is_deal (mCons (mVar 0) (mCons (mVar 1) mNil))))) (mRaise .NoDeal) mSkip))
def f_look : List D → AH → Res D := callM 2 m_look
theorem g_look {P : Program} {w : World} {K : PySem.W.Frag} {mg : Str → Option Value} {base : Heap} (T : Tx K mg) (G_look_size : Good P w K mg base "look_size" 2 1 f_look_size) (G_is_deal : Good P w K mg base "is_deal" 2 2 f_is_deal) : Good P w K mg base "look" 3 2 f_look := by
  obtain ⟨fd, F⟩ := T.d_look
  have sc : FnScope ["size", "deal"] ["size", "deal"] (defScope (top 18)) := ⟨rfl, rfl, rfl, by decide +kernel, rfl, by decide +kernel, by decide +kernel⟩
  refine good_of (st := top 18) (k := 2) F T.g_look (FunD.bindsA F fun _ _ _ _ _ _ us hl => match us, hl with | [_, _], _ => rfl) sc rfl (by decide) fun cdv A outer s H E hr => ?_
  unfold m_look 
  exact (ss_cons (s_expr (e_call G_look_size (hr.mono (by omega)) (takes_of rfl rfl rfl rfl) (nA nA0) (a_cons (e_var 0) a_nil))) (ss_one (s_if (t_not (t_truth (e_call G_is_deal (hr.mono (by omega)) (takes_of rfl rfl rfl rfl) (nA (nA nA0)) (a_cons (e_var 0) (a_cons (e_var 1) a_nil))))) (ss_one (s_raise .NoDeal T.x_NoDeal (takes_of rfl rfl rfl rfl))) ss_nil)))
def m_parting : MS := (mSeq (mDrop (mCallF f_look (mCons (mVar 0) (mCons (mVar 1) mNil)))) (mSeq (mIfS (mOr (mNot (mTst truthD (mCallF f_is_deal (mCons (mVar 0) (mCons (mVar 2) mNil))))) (mCmp gNe (mQ qLen (mSq (mVar 2))) (mQ qLen (mSq (mVar 1))))) (mRaise .NoDeal) mSkip) (mSeq (mDrop (mCallF f_look_asks (mCons (mQ qLen (mSq (mVar 1))) (mCons (mVar 3) mNil)))) (mSeq (mSet 4 (mCallF f_turns_told (mCons (mVar 0) (mCons (mVar 1) (mCons (mVar 3) mNil))))) (mSeq (mSet 5 (mCallF f_turns_told (mCons (mVar 0) (mCons (mVar 2) (mCons (mVar 3) mNil))))) (mRet (mQ2 qAt (mSq (mBin gAdd (mLst (mLc (mFnL rng1 (mCons (mQ qLen (mSq (mVar 3))) mNil)) [6] (asN 6) (mCmp gNe (mQ2 qAt (mSq (mVar 4)) (mVar 6)) (mQ2 qAt (mSq (mVar 5)) (mVar 6))) (mVar 6))) (mLst (mDisp (mCons (mC .non) mNil))))) (mC (.int 0)))))))))
def f_parting : List D → AH → Res D := callM 7 m_parting
theorem g_parting {P : Program} {w : World} {K : PySem.W.Frag} {mg : Str → Option Value} {base : Heap} (T : Tx K mg) (G_look : Good P w K mg base "look" 3 2 f_look) (G_is_deal : Good P w K mg base "is_deal" 2 2 f_is_deal) (G_look_asks : Good P w K mg base "look_asks" 2 2 f_look_asks) (G_turns_told : Good P w K mg base "turns_told" 2 3 f_turns_told) : Good P w K mg base "parting" 4 4 f_parting := by
  obtain ⟨fd, F⟩ := T.d_parting
  have sc : FnScope ["size", "deal", "other", "asks", "mine", "theirs", "at"] ["size", "deal", "other", "asks"] (defScope (top 30)) := ⟨rfl, rfl, rfl, by decide +kernel, rfl, by decide +kernel, by decide +kernel⟩
  refine good_of (st := top 30) (k := 3) F T.g_parting (FunD.bindsA F fun _ _ _ _ _ _ us hl => match us, hl with | [_, _, _, _], _ => rfl) sc rfl (by decide) fun cdv A outer s H E hr => ?_
  unfold m_parting 
  exact (ss_cons (s_expr (e_call G_look (hr.mono (by omega)) (takes_of rfl rfl rfl rfl) (nA (nA nA0)) (a_cons (e_var 0) (a_cons (e_var 1) a_nil)))) (ss_cons (s_if (w_or (t_not (t_truth (e_call G_is_deal (hr.mono (by omega)) (takes_of rfl rfl rfl rfl) (nA (nA nA0)) (a_cons (e_var 0) (a_cons (e_var 2) a_nil))))) (w_or1 (t_cmp (op_neD hr.units) sb_ne (e_len T.b_len (q_val (e_var 2))) (e_len T.b_len (q_val (e_var 1))) (nomark _)))).pt (ss_one (s_raise .NoDeal T.x_NoDeal (takes_of rfl rfl rfl rfl))) ss_nil) (ss_cons (s_expr (e_call G_look_asks (hr.mono (by omega)) (takes_of rfl rfl rfl rfl) (nA (nA nA0)) (a_cons (e_len T.b_len (q_val (e_var 1))) (a_cons (e_var 3) a_nil)))) (ss_cons (s_set 4 sc.nd (e_call G_turns_told (hr.mono (by omega)) (takes_of rfl rfl rfl rfl) (nA (nA (nA nA0))) (a_cons (e_var 0) (a_cons (e_var 1) (a_cons (e_var 3) a_nil))))) (ss_cons (s_set 5 sc.nd (e_call G_turns_told (hr.mono (by omega)) (takes_of rfl rfl rfl rfl) (nA (nA (nA nA0))) (a_cons (e_var 0) (a_cons (e_var 2) (a_cons (e_var 3) a_nil))))) (ss_one (s_ret (e_at (q_val (e_add (e_lst (l_lc (own := [("at", 6)]) sc.nd (i_range1 T.b_range (a_cons (e_len T.b_len (q_val (e_var 3))) a_nil)) (blkOk_by (N := ["size", "deal", "other", "asks", "mine", "theirs", "at"]) (sc := defScope (top 30)) (by decide +kernel)) (fun _ _ _ _ _ => (pg_name (i := 6) sc.nd rfl (by first | exact Or.inl rfl | exact Or.inr rfl))) (sgc_name (by decide)) (fun _ _ _ _ _ => (pts_one (t_cmp (op_neD hr.units) sb_ne (e_at (q_val (e_var 4)) (e_var 6)) (e_at (q_val (e_var 5)) (e_var 6)) (nomark _)))) (fun _ _ _ _ _ => (e_var 6)))) (e_lst (l_disp (a_cons e_non a_nil))))) e_int))))))))
def m__law_all_deals : MS := (mSeq (mSet 2 (mLst (mDisp (mCons (mTup mNil) mNil)))) (mSeq (mFor (mFnL rng1 (mCons (mVar 1) mNil)) (asN 3) (mSeq (mSet 4 (mLst (mDisp mNil))) (mSeq (mFor (mIt seqItems (mVar 2)) (asN 5) (mSet 4 (mBin gAdd (mVar 4) (mLst (mLc (mFnL rng1 (mCons (mVar 0) mNil)) [6] (asN 6) (m2Q qNotIn (mVar 6) (mSq (mVar 5))) (mBin gAdd (mVar 5) (mTup (mCons (mVar 6) mNil)))))))) (mSet 2 (mVar 4))))) (mRet (mVar 2))))
def f__law_all_deals : List D → AH → Res D := callM 7 m__law_all_deals
theorem g__law_all_deals {P : Program} {w : World} {K : PySem.W.Frag} {mg : Str → Option Value} {base : Heap} (T : Tx K mg)  : Good P w K mg base "_law_all_deals" 1 2 f__law_all_deals := by
  obtain ⟨fd, F⟩ := T.d__law_all_deals
  have sc : FnScope ["size", "many", "found", "thing", "longer", "deal", "place"] ["size", "many"] (defScope (top 79)) := ⟨rfl, rfl, rfl, by decide +kernel, rfl, by decide +kernel, by decide +kernel⟩
  refine good_of (st := top 79) (k := 0) F T.g__law_all_deals (FunD.bindsA F fun _ _ _ _ _ _ us hl => match us, hl with | [_, _], _ => rfl) sc rfl (by decide) fun cdv A outer s H E hr => ?_
  unfold m__law_all_deals 
  exact (ss_cons (s_set 2 sc.nd (e_lst (l_disp (a_cons (e_tup a_nil) a_nil)))) (ss_cons (s_for (passes_of rfl) (i_range1 T.b_range (a_cons (e_var 1) a_nil)) (pg_name (i := 3) sc.nd rfl (by first | exact Or.inl rfl | exact Or.inr rfl)) sg_name (ss_cons (s_set 4 sc.nd (e_lst (l_disp a_nil))) (ss_cons (s_for (passes_of rfl) (i_seq (e_var 2)) (pg_name (i := 5) sc.nd rfl (by first | exact Or.inl rfl | exact Or.inr rfl)) sg_name (ss_one (s_set 4 sc.nd (e_add (e_var 4) (e_lst (l_lc (own := [("place", 6)]) sc.nd (i_range1 T.b_range (a_cons (e_var 0) a_nil)) (blkOk_by (N := ["size", "many", "found", "thing", "longer", "deal", "place"]) (sc := defScope (top 79)) (by decide +kernel)) (fun _ _ _ _ _ => (pg_name (i := 6) sc.nd rfl (by first | exact Or.inl rfl | exact Or.inr rfl))) (sgc_name (by decide)) (fun _ _ _ _ _ => (pts_one (t_notin hr (e_var 6) (q_val (e_var 5))))) (fun _ _ _ _ _ => (e_add (e_var 5) (e_tup (a_cons (e_var 6) a_nil)))))))))) (ss_one (s_set 2 sc.nd (e_var 4)))))) (ss_one (s_ret (e_var 2)))))
def m_sure_places : MS := (mSeq (mDrop (mCallF f_look_many (mCons (mVar 0) (mCons (mVar 1) mNil)))) (mSeq (mDrop (mCallF f_look_asks (mCons (mVar 1) (mCons (mVar 2) mNil)))) (mSeq (mDrop (mCallF f_look_turns (mCons (mVar 2) (mCons (mVar 3) mNil)))) (mSeq (mSet 4 (mCallF f_heard_deals (mCons (mVar 0) (mCons (mVar 1) (mCons (mVar 2) (mCons (mVar 3) mNil)))))) (mSeq (mIfS (mNot (mTst truthD (mVar 4))) (mRaise .NoDeal) mSkip) (mSeq (mSetL 5 (mDisp mNil)) (mSeq (mFor (mFnL rng1 (mCons (mVar 1) mNil)) (asN 6) (mSeq (mSet 7 (mLst (mLc (mIt seqItems (mVar 4)) [8] (asN 8) (fun _ h => .ok true h) (mQ2 qAt (mSq (mVar 8)) (mVar 6))))) (mApp 5 (mIf (mCmp gEq (mQ qLenSet (mSq (mVar 7))) (mC (.int 1))) (mQ2 qAt (mSq (mVar 7)) (mC (.int 0))) (mC .non))))) (mRetO 5))))))))
def f_sure_places : List D → AH → Res D := callM 9 m_sure_places
theorem g_sure_places {P : Program} {w : World} {K : PySem.W.Frag} {mg : Str → Option Value} {base : Heap} (T : Tx K mg) (G_look_many : Good P w K mg base "look_many" 3 2 f_look_many) (G_look_asks : Good P w K mg base "look_asks" 2 2 f_look_asks) (G_look_turns : Good P w K mg base "look_turns" 1 2 f_look_turns) (G_heard_deals : Good P w K mg base "heard_deals" 3 4 f_heard_deals) : Good P w K mg base "sure_places" 4 4 f_sure_places := by
  obtain ⟨fd, F⟩ := T.d_sure_places
  have sc : FnScope ["size", "many", "asks", "turns", "some", "found", "thing", "places", "deal"] ["size", "many", "asks", "turns"] (defScope (top 29)) := ⟨rfl, rfl, rfl, by decide +kernel, rfl, by decide +kernel, by decide +kernel⟩
  refine good_of (st := top 29) (k := 3) F T.g_sure_places (FunD.bindsA F fun _ _ _ _ _ _ us hl => match us, hl with | [_, _, _, _], _ => rfl) sc rfl (by decide) fun cdv A outer s H E hr => ?_
  unfold m_sure_places 
  exact (ss_cons (s_expr (e_call G_look_many (hr.mono (by omega)) (takes_of rfl rfl rfl rfl) (nA (nA nA0)) (a_cons (e_var 0) (a_cons (e_var 1) a_nil)))) (ss_cons (s_expr (e_call G_look_asks (hr.mono (by omega)) (takes_of rfl rfl rfl rfl) (nA (nA nA0)) (a_cons (e_var 1) (a_cons (e_var 2) a_nil)))) (ss_cons (s_expr (e_call G_look_turns (hr.mono (by omega)) (takes_of rfl rfl rfl rfl) (nA (nA nA0)) (a_cons (e_var 2) (a_cons (e_var 3) a_nil)))) (ss_cons (s_set 4 sc.nd (e_call G_heard_deals (hr.mono (by omega)) (takes_of rfl rfl rfl rfl) (nA (nA (nA (nA nA0)))) (a_cons (e_var 0) (a_cons (e_var 1) (a_cons (e_var 2) (a_cons (e_var 3) a_nil)))))) (ss_cons (s_if (t_not (t_truth (e_var 4))) (ss_one (s_raise .NoDeal T.x_NoDeal (takes_of rfl rfl rfl rfl))) ss_nil) (ss_cons (s_setL 5 sc.nd (l_disp a_nil)) (ss_cons (s_for (passes_of rfl) (i_range1 T.b_range (a_cons (e_var 1) a_nil)) (pg_name (i := 6) sc.nd rfl (by first | exact Or.inl rfl | exact Or.inr rfl)) sg_name (ss_cons (s_setLc 7 (own := [("deal", 8)]) sc.nd (i_seq (e_var 4)) (blkOk_by (N := ["size", "many", "asks", "turns", "some", "found", "thing", "places", "deal"]) (sc := defScope (top 29)) (by decide +kernel)) (fun _ _ _ _ _ => (pg_name (i := 8) sc.nd rfl (by first | exact Or.inl rfl | exact Or.inr rfl))) (sgc_name (by decide)) (fun _ _ _ _ _ => ts_nil) (fun _ _ _ _ _ => (e_at (q_val (e_var 8)) (e_var 6))) (sw_true rfl rfl rfl (by decide +kernel))) (ss_one (s_app 5 (e_if (t_cmp (op_eqD hr.units) sb_eq (e_lenSet T.b_len T.b_set (q_val (e_var 7))) e_int (nomark _)) (e_at (q_val (e_var 7)) e_int) e_non))))) (ss_one (s_retO 5)))))))))
def m__law_called_then : MS := (mSeq (mIfS (mCmp gLt (mVar 0) (mC (.int 13))) (mSeq (mIfS (mCmp gLt (mVar 0) (mC (.int 11))) (mRet (mIf (mCmp gEq (mVar 0) (mC (.int 9))) mNevE (mCallF f_deals_by (mCons (mQ2 qAt (mSq (mVar 1)) (mC (.int 0))) (mCons (mQ2 qAt (mSq (mVar 1)) (mC (.int 1))) (mCons (mQ2 qAt (mSq (mVar 1)) (mC (.int 2))) (mCons (mQ2 qAt (mSq (mVar 1)) (mC (.int 3))) mNil))))))) mSkip) (mRet (mIf (mCmp gEq (mVar 0) (mC (.int 11))) (mCallF f_sure_places (mCons (mQ2 qAt (mSq (mVar 1)) (mC (.int 0))) (mCons (mQ2 qAt (mSq (mVar 1)) (mC (.int 1))) (mCons (mQ2 qAt (mSq (mVar 1)) (mC (.int 2))) (mCons (mQ2 qAt (mSq (mVar 1)) (mC (.int 3))) mNil))))) (mCallF f_parting (mCons (mQ2 qAt (mSq (mVar 1)) (mC (.int 0))) (mCons (mQ2 qAt (mSq (mVar 1)) (mC (.int 1))) (mCons (mQ2 qAt (mSq (mVar 1)) (mC (.int 2))) (mCons (mQ2 qAt (mSq (mVar 1)) (mC (.int 3))) mNil)))))))) mSkip) (mSeq (mIfS (mCmp gLt (mVar 0) (mC (.int 15))) (mRet (mIf (mCmp gEq (mVar 0) (mC (.int 13))) mNevE mNevE)) mSkip) (mSeq (mIfS (mCmp gEq (mVar 0) (mC (.int 15))) mNever mSkip) (mRet (mIf (mCmp gEq (mVar 0) (mC (.int 16))) mNevE mNevE)))))
def f__law_called_then : List D → AH → Res D := callM 2 m__law_called_then
theorem g__law_called_then {P : Program} {w : World} {K : PySem.W.Frag} {mg : Str → Option Value} {base : Heap} (T : Tx K mg) (G_deals_by : Good P w K mg base "deals_by" 4 4 f_deals_by) (G_sure_places : Good P w K mg base "sure_places" 4 4 f_sure_places) (G_parting : Good P w K mg base "parting" 4 4 f_parting) : Good P w K mg base "_law_called_then" 5 2 f__law_called_then := by
  obtain ⟨fd, F⟩ := T.d__law_called_then
  have sc : FnScope ["which", "a"] ["which", "a"] (defScope (top 83)) := ⟨rfl, rfl, rfl, by decide +kernel, rfl, by decide +kernel, by decide +kernel⟩
  refine good_of (st := top 83) (k := 4) F T.g__law_called_then (FunD.bindsA F fun _ _ _ _ _ _ us hl => match us, hl with | [_, _], _ => rfl) sc rfl (by decide) fun cdv A outer s H E hr => ?_
  unfold m__law_called_then 
  exact (ss_cons (s_if (t_cmp op_lt sb_ci (e_var 0) e_int (nomark _)) (ss_cons (s_if (t_cmp op_lt sb_ci (e_var 0) e_int (nomark _)) (ss_one (s_ret (e_if (t_cmp (op_eqD hr.units) sb_eq (e_var 0) e_int (nomark _)) e_never (e_call G_deals_by (hr.mono (by omega)) (takes_of rfl rfl rfl rfl) (nA (nA (nA (nA nA0)))) (a_cons (e_at (q_val (e_var 1)) e_int) (a_cons (e_at (q_val (e_var 1)) e_int) (a_cons (e_at (q_val (e_var 1)) e_int) (a_cons (e_at (q_val (e_var 1)) e_int) a_nil)))))))) ss_nil) (ss_one (s_ret (e_if (t_cmp (op_eqD hr.units) sb_eq (e_var 0) e_int (nomark _)) (e_call G_sure_places (hr.mono (by omega)) (takes_of rfl rfl rfl rfl) (nA (nA (nA (nA nA0)))) (a_cons (e_at (q_val (e_var 1)) e_int) (a_cons (e_at (q_val (e_var 1)) e_int) (a_cons (e_at (q_val (e_var 1)) e_int) (a_cons (e_at (q_val (e_var 1)) e_int) a_nil))))) (e_call G_parting (hr.mono (by omega)) (takes_of rfl rfl rfl rfl) (nA (nA (nA (nA nA0)))) (a_cons (e_at (q_val (e_var 1)) e_int) (a_cons (e_at (q_val (e_var 1)) e_int) (a_cons (e_at (q_val (e_var 1)) e_int) (a_cons (e_at (q_val (e_var 1)) e_int) a_nil))))))))) ss_nil) (ss_cons (s_if (t_cmp op_lt sb_ci (e_var 0) e_int (nomark _)) (ss_one (s_ret (e_if (t_cmp (op_eqD hr.units) sb_eq (e_var 0) e_int (nomark _)) e_never e_never))) ss_nil) (ss_cons (s_if (t_cmp (op_eqD hr.units) sb_eq (e_var 0) e_int (nomark _)) (ss_one s_never) ss_nil) (ss_one (s_ret (e_if (t_cmp (op_eqD hr.units) sb_eq (e_var 0) e_int (nomark _)) e_never e_never))))))
def m__law_named : MS := (mSeq (mSet 2 (mC (.str ""))) (mSeq (mTry [.NoSize, .NoWeights, .NoDeal, .NoAsks, .NoThing, .NoPlace, .NoCount, .Nothing] (mIfS (mCmp gLt (mVar 0) (mC (.int 9))) mNever (mDrop (mCallF f__law_called_then (mCons (mVar 0) (mCons (mVar 1) mNil))))) [(.NoSize, (mSet 2 (mC (.str "size")))), (.NoWeights, (mSet 2 (mC (.str "weights")))), (.NoDeal, (mSet 2 (mC (.str "deal")))), (.NoAsks, (mSet 2 (mC (.str "asks")))), (.NoPlace, (mSet 2 (mC (.str "place")))), (.NoCount, (mSet 2 (mC (.str "count")))), (.NoThing, (mSet 2 (mC (.str "thing"))))]) (mRet (mVar 2))))
def f__law_named : List D → AH → Res D := callM 3 m__law_named
theorem g__law_named {P : Program} {w : World} {K : PySem.W.Frag} {mg : Str → Option Value} {base : Heap} (T : Tx K mg) (G__law_called_then : Good P w K mg base "_law_called_then" 5 2 f__law_called_then) : Good P w K mg base "_law_named" 6 2 f__law_named := by
  obtain ⟨fd, F⟩ := T.d__law_named
  have sc : FnScope ["which", "a", "caught"] ["which", "a"] (defScope (top 84)) := ⟨rfl, rfl, rfl, by decide +kernel, rfl, by decide +kernel, by decide +kernel⟩
  refine good_of (st := top 84) (k := 5) F T.g__law_named (FunD.bindsA F fun _ _ _ _ _ _ us hl => match us, hl with | [_, _], _ => rfl) sc rfl (by decide) fun cdv A outer s H E hr => ?_
  unfold m__law_named 
  exact (ss_cons (s_set 2 sc.nd e_str) (ss_cons (s_try (cs := [.NoSize, .NoWeights, .NoDeal, .NoAsks, .NoThing, .NoPlace, .NoCount, .Nothing]) (T.isa.sub (by decide)) (takes_of rfl rfl rfl rfl) (fun _ _ _ tk ps => (ss_one (s_if (t_cmp op_lt sb_ci (e_var 0) e_int (nomark _)) ss_never (ss_one (s_expr (e_call G__law_called_then (hr.mono (by omega)) tk (nA (nA nA0)) (a_cons (e_var 0) (a_cons (e_var 1) a_nil)))))))) (Hds.cons (x := .NoSize) rfl ⟨rfl, by decide, .inl T.x_NoSize.g⟩ (fun _ _ _ => (ss_one (s_set 2 sc.nd e_str))) (Hds.cons (x := .NoWeights) rfl ⟨rfl, by decide, .inl T.x_NoWeights.g⟩ (fun _ _ _ => (ss_one (s_set 2 sc.nd e_str))) (Hds.cons (x := .NoDeal) rfl ⟨rfl, by decide, .inl T.x_NoDeal.g⟩ (fun _ _ _ => (ss_one (s_set 2 sc.nd e_str))) (Hds.cons (x := .NoAsks) rfl ⟨rfl, by decide, .inl T.x_NoAsks.g⟩ (fun _ _ _ => (ss_one (s_set 2 sc.nd e_str))) (Hds.cons (x := .NoPlace) rfl ⟨rfl, by decide, .inl T.x_NoPlace.g⟩ (fun _ _ _ => (ss_one (s_set 2 sc.nd e_str))) (Hds.cons (x := .NoCount) rfl ⟨rfl, by decide, .inl T.x_NoCount.g⟩ (fun _ _ _ => (ss_one (s_set 2 sc.nd e_str))) (Hds.cons (x := .NoThing) rfl ⟨rfl, by decide, .inl T.x_NoThing.g⟩ (fun _ _ _ => (ss_one (s_set 2 sc.nd e_str))) Hds.nil))))))) (by intro p hp env h c env' h'; simp at hp; rcases hp with rfl | rfl | rfl | rfl | rfl | rfl | rfl <;> (intro z; cases z))) (ss_one (s_ret (e_var 2)))))
def m_law_t8 : MS := (mSeq (mSet 11 (mCallF f__law_deal (mCons (mCallF f__law_seed (mCons (mCallF f__law_cell (mCons (mVar 0) (mCons (mC (.int 8)) mNil))) (mCons (mC (.int 2)) mNil))) (mCons (mVar 1) (mCons (mVar 2) mNil))))) (mSeq (mSetT (asT [12, 13]) (mTup (mCons (mCallF f__law_turned (mCons (mVar 1) (mCons (mVar 3) (mCons (mVar 4) mNil)))) (mCons (mCallF f__law_turned (mCons (mVar 1) (mCons (mVar 11) (mCons (mVar 4) mNil)))) mNil)))) (mSeq (mSet 14 (mLst (mLc (mFnL rng1 (mCons (mQ qLen (mSq (mVar 4))) mNil)) [6] (asN 6) (mCmp gNe (mQ2 qAt (mSq (mVar 12)) (mVar 6)) (mQ2 qAt (mSq (mVar 13)) (mVar 6))) (mVar 6)))) (mRet (mVal (mCmp gEq (mCallF f_parting (mCons (mVar 1) (mCons (mVar 3) (mCons (mVar 11) (mCons (mVar 4) mNil))))) (mIf (mCmp gNe (mVar 14) (mLst (mDisp mNil))) (mQ2 qAt (mSq (mVar 14)) (mC (.int 0))) (mC .non))))))))
def m_law_t5 : MS := (mFrz 5 (mSeq (mSet 7 (mLst (mLc (mIt seqItems (mCallF f__law_all_deals (mCons (mVar 1) (mCons (mVar 2) mNil)))) [15] (asN 15) (mCmp gEq (mCallF f__law_turned (mCons (mVar 1) (mCons (mVar 15) (mCons (mVar 4) mNil)))) (mVar 5)) (mVar 15)))) (mSeq (mIfS (mCmp gNe (mCallF f_deals_by (mCons (mVar 1) (mCons (mVar 2) (mCons (mVar 4) (mCons (mLst (mLOf (mSq (mVar 5)))) mNil))))) (mVar 7)) (mRet (mC (.bl false))) mSkip) (mSeq (mIfS (mCmp gEq (mVar 7) (mLst (mDisp mNil))) (mIfS (mCmp gNe (mCallF f__law_named (mCons (mC (.int 11)) (mCons (mLst (mDisp (mCons (mVar 1) (mCons (mVar 2) (mCons (mVar 4) (mCons (mLst (mLOf (mSq (mVar 5)))) mNil)))))) mNil))) (mC (.str "deal"))) (mRet (mC (.bl false))) mSkip) (mSeq (mSetL 8 (mDisp mNil)) (mSeq (mFor (mFnL rng1 (mCons (mVar 2) mNil)) (asN 9) (mSeq (mSet 10 (mLst (mLc (mIt seqItems (mVar 7)) [15] (asN 15) (fun _ h => .ok true h) (mQ2 qAt (mSq (mVar 15)) (mVar 9))))) (mApp 8 (mIf (mCmp gEq (mCount (mVar 10) (mQ2 qAt (mSq (mVar 10)) (mC (.int 0)))) (mQ qLen (mSq (mVar 10)))) (mQ2 qAt (mSq (mVar 10)) (mC (.int 0))) (mC .non))))) (mFrz 8 (mIfS (mCmp gNe (mCallF f_sure_places (mCons (mVar 1) (mCons (mVar 2) (mCons (mVar 4) (mCons (mLst (mLOf (mSq (mVar 5)))) mNil))))) (mVar 8)) (mRet (mC (.bl false))) mSkip))))) m_law_t8))))
def m_law : MS := (mSeq (mSetT (asT [1, 2]) (mCallF f__law_sizes (mCons (mVar 0) (mCons (mC (.int 0)) mNil)))) (mSeq (mSet 3 (mCallF f__law_deal (mCons (mCallF f__law_seed (mCons (mCallF f__law_cell (mCons (mVar 0) (mCons (mC (.int 2)) mNil))) (mCons (mC (.int 0)) mNil))) (mCons (mVar 1) (mCons (mVar 2) mNil))))) (mSeq (mSet 4 (mCallF f__law_asks (mCons (mCallF f__law_seed (mCons (mCallF f__law_cell (mCons (mVar 0) (mCons (mC (.int 3)) mNil))) (mCons (mC (.int 1)) mNil))) (mCons (mVar 2) (mCons (mBin gMod (mCallF f__law_cell (mCons (mVar 0) (mCons (mC (.int 4)) mNil))) (mC (.int 7))) mNil))))) (mSeq (mSetL 5 (mCallL n__law_turned (mCons (mVar 1) (mCons (mVar 3) (mCons (mVar 4) mNil))))) (mSeq (mIfS (mAnd (mCmp gNe (mVar 4) (mTup mNil)) (mCmp gEq (mBin gMod (mCallF f__law_cell (mCons (mVar 0) (mCons (mC (.int 5)) mNil))) (mC (.int 3))) (mC (.int 0)))) (mSeq (mSet 6 (mBin gMod (mCallF f__law_cell (mCons (mVar 0) (mCons (mC (.int 6)) mNil))) (mQ qLen (mSq (mVar 4))))) (mAugS 5 (mVar 6) (fun i j => i + j) (mQ2 qAt (mSq (mLst (mDisp (mCons (mUn gNeg (mC (.int 1))) (mCons (mC (.int 1)) (mCons (mVar 1) (mCons (mC (.int 2)) mNil))))))) (mBin gMod (mCallF f__law_cell (mCons (mVar 0) (mCons (mC (.int 7)) mNil))) (mC (.int 4)))))) mSkip) m_law_t5)))))
def f_law : List D → AH → Res D := callM 16 m_law
theorem g_law {P : Program} {w : World} {K : PySem.W.Frag} {mg : Str → Option Value} {base : Heap} {fd : FuncData} (T : Tx K mg) (G__law_sizes : Good P w K mg base "_law_sizes" 2 2 f__law_sizes) (G__law_deal : Good P w K mg base "_law_deal" 2 3 f__law_deal) (G__law_seed : Good P w K mg base "_law_seed" 1 2 f__law_seed) (G__law_cell : Good P w K mg base "_law_cell" 1 2 f__law_cell) (G__law_asks : Good P w K mg base "_law_asks" 2 3 f__law_asks) (G__law_turned : Good P w K mg base "_law_turned" 2 3 f__law_turned) (G__law_all_deals : Good P w K mg base "_law_all_deals" 1 2 f__law_all_deals) (G_deals_by : Good P w K mg base "deals_by" 4 4 f_deals_by) (G__law_named : Good P w K mg base "_law_named" 6 2 f__law_named) (G_sure_places : Good P w K mg base "sure_places" 4 4 f_sure_places) (G_parting : Good P w K mg base "parting" 4 4 f_parting) (GN__law_turned : GoodN P w K mg base "_law_turned" 2 3 n__law_turned) (F : FunD K "law" "law" (defArgs (top 85)) (defBody (top 85)) (defScope (top 85)) [] [] (He.ga K "law") fd) : FnOk P w K mg base (L2.CX P w) 7 (He.ga K "law") fd ["script"] (SpOf K 1 f_law) := by
  have sc : FnScope ["script", "size", "many", "deal", "asks", "sounds", "at", "some", "due", "thing", "places", "other", "mine", "theirs", "apart", "one"] ["script"] (defScope (top 85)) := ⟨rfl, rfl, rfl, by decide +kernel, rfl, by decide +kernel, by decide +kernel⟩
  refine fnok_of (st := top 85) (k := 6) F sc rfl (by decide) fun cdv A outer s H E hr => ?_
  unfold m_law m_law_t5 m_law_t8
  exact (ss_cons (s_setT (e_call G__law_sizes (hr.mono (by omega)) (takes_of rfl rfl rfl rfl) (nA (nA nA0)) (a_cons (e_var 0) (a_cons e_int a_nil))) (pg_tup rfl (pgs_cons (pg_name (i := 1) sc.nd rfl (by first | exact Or.inl rfl | exact Or.inr rfl)) (pgs_cons (pg_name (i := 2) sc.nd rfl (by first | exact Or.inl rfl | exact Or.inr rfl)) pgs_nil))) (sg_tup (is := [1, 2]))) (ss_cons (s_set 3 sc.nd (e_call G__law_deal (hr.mono (by omega)) (takes_of rfl rfl rfl rfl) (nA (nA (nA nA0))) (a_cons (e_call G__law_seed (hr.mono (by omega)) (takes_of rfl rfl rfl rfl) (nA (nA nA0)) (a_cons (e_call G__law_cell (hr.mono (by omega)) (takes_of rfl rfl rfl rfl) (nA (nA nA0)) (a_cons (e_var 0) (a_cons e_int a_nil))) (a_cons e_int a_nil))) (a_cons (e_var 1) (a_cons (e_var 2) a_nil))))) (ss_cons (s_set 4 sc.nd (e_call G__law_asks (hr.mono (by omega)) (takes_of rfl rfl rfl rfl) (nA (nA (nA nA0))) (a_cons (e_call G__law_seed (hr.mono (by omega)) (takes_of rfl rfl rfl rfl) (nA (nA nA0)) (a_cons (e_call G__law_cell (hr.mono (by omega)) (takes_of rfl rfl rfl rfl) (nA (nA nA0)) (a_cons (e_var 0) (a_cons e_int a_nil))) (a_cons e_int a_nil))) (a_cons (e_var 2) (a_cons (e_mod (e_call G__law_cell (hr.mono (by omega)) (takes_of rfl rfl rfl rfl) (nA (nA nA0)) (a_cons (e_var 0) (a_cons e_int a_nil))) e_int) a_nil))))) (ss_cons (s_setL 5 sc.nd (l_call GN__law_turned (hr.mono (by omega)) (takes_of rfl rfl rfl rfl) (nA (nA (nA nA0))) (a_cons (e_var 1) (a_cons (e_var 3) (a_cons (e_var 4) a_nil))))) (ss_cons (s_if (w_and (t_cmp (op_neD hr.units) sb_ne (e_var 4) (e_tup a_nil) (nomark _)) (w_and1 (t_cmp (op_eqD hr.units) sb_eq (e_mod (e_call G__law_cell (hr.mono (by omega)) (takes_of rfl rfl rfl rfl) (nA (nA nA0)) (a_cons (e_var 0) (a_cons e_int a_nil))) e_int) e_int (nomark _)))).pt (ss_cons (s_set 6 sc.nd (e_mod (e_call G__law_cell (hr.mono (by omega)) (takes_of rfl rfl rfl rfl) (nA (nA nA0)) (a_cons (e_var 0) (a_cons e_int a_nil))) (e_len T.b_len (q_val (e_var 4))))) (ss_one (s_augS 5 (e_var 6) (e_at (q_val (e_lst (l_disp (a_cons (e_neg e_int) (a_cons e_int (a_cons (e_var 1) (a_cons e_int a_nil))))))) (e_mod (e_call G__law_cell (hr.mono (by omega)) (takes_of rfl rfl rfl rfl) (nA (nA nA0)) (a_cons (e_var 0) (a_cons e_int a_nil))) e_int)) ip_add))) ss_nil) (ss_frz 5 (ss_cons (s_setLc 7 (own := [("one", 15)]) sc.nd (i_seq (e_call G__law_all_deals (hr.mono (by omega)) (takes_of rfl rfl rfl rfl) (nA (nA nA0)) (a_cons (e_var 1) (a_cons (e_var 2) a_nil)))) (blkOk_by (N := ["script", "size", "many", "deal", "asks", "sounds", "at", "some", "due", "thing", "places", "other", "mine", "theirs", "apart", "one"]) (sc := defScope (top 85)) (by decide +kernel)) (fun _ _ _ _ _ => (pg_name (i := 15) sc.nd rfl (by first | exact Or.inl rfl | exact Or.inr rfl))) (sgc_name (by decide)) (fun _ _ _ _ _ => (pts_one (t_cmp (op_eqD hr.units) sb_eq (e_call G__law_turned (hr.mono (by omega)) takes0 (nA (nA (nA nA0))) (a_cons (e_var 1) (a_cons (e_var 15) (a_cons (e_var 4) a_nil)))) (e_var 5) (nomark _)))) (fun _ _ _ _ _ => (e_var 15)) (sw_true rfl rfl rfl (by decide +kernel))) (ss_cons (s_if (t_cmp (op_neD hr.units) sb_ne (e_call G_deals_by (hr.mono (by omega)) (takes_of rfl rfl rfl rfl) (nA (nA (nA (nA nA0)))) (a_cons (e_var 1) (a_cons (e_var 2) (a_cons (e_var 4) (a_cons (e_lst (l_of T.b_list (q_val (e_var 5)))) a_nil))))) (e_var 7) (nomark _)) (ss_one (s_ret e_bl)) ss_nil) (ss_cons (s_if (t_cmp (op_eqD hr.units) sb_eq (e_var 7) (e_lst (l_disp a_nil)) (nomark _)) (ss_one (s_if (t_cmp (op_neD hr.units) sb_ne (e_call G__law_named (hr.mono (by omega)) (takes_of rfl rfl rfl rfl) (nA (nA nA0)) (a_cons e_int (a_cons (e_lst (l_disp (a_cons (e_var 1) (a_cons (e_var 2) (a_cons (e_var 4) (a_cons (e_lst (l_of T.b_list (q_val (e_var 5)))) a_nil)))))) a_nil))) e_str (nomark _)) (ss_one (s_ret e_bl)) ss_nil)) (ss_cons (s_setL 8 sc.nd (l_disp a_nil)) (ss_cons (s_for (passes_of rfl) (i_range1 T.b_range (a_cons (e_var 2) a_nil)) (pg_name (i := 9) sc.nd rfl (by first | exact Or.inl rfl | exact Or.inr rfl)) sg_name (ss_cons (s_setLc 10 (own := [("one", 15)]) sc.nd (i_seq (e_var 7)) (blkOk_by (N := ["script", "size", "many", "deal", "asks", "sounds", "at", "some", "due", "thing", "places", "other", "mine", "theirs", "apart", "one"]) (sc := defScope (top 85)) (by decide +kernel)) (fun _ _ _ _ _ => (pg_name (i := 15) sc.nd rfl (by first | exact Or.inl rfl | exact Or.inr rfl))) (sgc_name (by decide)) (fun _ _ _ _ _ => ts_nil) (fun _ _ _ _ _ => (e_at (q_val (e_var 15)) (e_var 9))) (sw_true rfl rfl rfl (by decide +kernel))) (ss_one (s_app 8 (e_if (t_cmp (op_eqD hr.units) sb_eq (e_count (e_var 10) (e_at (q_val (e_var 10)) e_int)) (e_len T.b_len (q_val (e_var 10))) (nomark _)) (e_at (q_val (e_var 10)) e_int) e_non))))) (ss_frz 8 (ss_one (s_if (t_cmp (op_neD hr.units) sb_ne (e_call G_sure_places (hr.mono (by omega)) (takes_of rfl rfl rfl rfl) (nA (nA (nA (nA nA0)))) (a_cons (e_var 1) (a_cons (e_var 2) (a_cons (e_var 4) (a_cons (e_lst (l_of T.b_list (q_val (e_var 5)))) a_nil))))) (e_var 8) (nomark _)) (ss_one (s_ret e_bl)) ss_nil)))))) (ss_cons (s_set 11 sc.nd (e_call G__law_deal (hr.mono (by omega)) (takes_of rfl rfl rfl rfl) (nA (nA (nA nA0))) (a_cons (e_call G__law_seed (hr.mono (by omega)) (takes_of rfl rfl rfl rfl) (nA (nA nA0)) (a_cons (e_call G__law_cell (hr.mono (by omega)) (takes_of rfl rfl rfl rfl) (nA (nA nA0)) (a_cons (e_var 0) (a_cons e_int a_nil))) (a_cons e_int a_nil))) (a_cons (e_var 1) (a_cons (e_var 2) a_nil))))) (ss_cons (s_setT (e_tup (a_cons (e_call G__law_turned (hr.mono (by omega)) (takes_of rfl rfl rfl rfl) (nA (nA (nA nA0))) (a_cons (e_var 1) (a_cons (e_var 3) (a_cons (e_var 4) a_nil)))) (a_cons (e_call G__law_turned (hr.mono (by omega)) (takes_of rfl rfl rfl rfl) (nA (nA (nA nA0))) (a_cons (e_var 1) (a_cons (e_var 11) (a_cons (e_var 4) a_nil)))) a_nil))) (pg_tup rfl (pgs_cons (pg_name (i := 12) sc.nd rfl (by first | exact Or.inl rfl | exact Or.inr rfl)) (pgs_cons (pg_name (i := 13) sc.nd rfl (by first | exact Or.inl rfl | exact Or.inr rfl)) pgs_nil))) (sg_tup (is := [12, 13]))) (ss_cons (s_setLc 14 (own := [("at", 6)]) sc.nd (i_range1 T.b_range (a_cons (e_len T.b_len (q_val (e_var 4))) a_nil)) (blkOk_by (N := ["script", "size", "many", "deal", "asks", "sounds", "at", "some", "due", "thing", "places", "other", "mine", "theirs", "apart", "one"]) (sc := defScope (top 85)) (by decide +kernel)) (fun _ _ _ _ _ => (pg_name (i := 6) sc.nd rfl (by first | exact Or.inl rfl | exact Or.inr rfl))) (sgc_name (by decide)) (fun _ _ _ _ _ => (pts_one (t_cmp (op_neD hr.units) sb_ne (e_at (q_val (e_var 12)) (e_var 6)) (e_at (q_val (e_var 13)) (e_var 6)) (nomark _)))) (fun _ _ _ _ _ => (e_var 6)) (sw_true rfl rfl rfl (by decide +kernel))) (ss_one (s_ret (e_cmp (op_eqD hr.units) sb_eq (e_call G_parting (hr.mono (by omega)) (takes_of rfl rfl rfl rfl) (nA (nA (nA (nA nA0)))) (a_cons (e_var 1) (a_cons (e_var 3) (a_cons (e_var 11) (a_cons (e_var 4) a_nil))))) (e_if (t_cmp (op_neD hr.units) sb_ne (e_var 14) (e_lst (l_disp a_nil)) (nomark _)) (e_at (q_val (e_var 14)) e_int) e_non) (nomark _))))))))))))))))
def dd (x : Str) (i : Nat) : He.DefD := ⟨(x, none), x, x, defArgs (top i), defBody (top i), defScope (top i), [], []⟩
def fn : List He.DefD := [dd "_law_cell" 73, dd "_law_sizes" 80, dd "_law_pick" 75, dd "_law_seed" 74, dd "_law_deal" 76, dd "_law_asks" 77, dd "_law_turn" 78, dd "_law_turned" 81, dd "is_within" 15, dd "look_size" 16, dd "look_many" 21, dd "look_asks" 19, dd "look_turns" 26, dd "every_deal" 24, dd "short_way" 22, dd "turns_told" 23, dd "heard_deals" 27, dd "deals_by" 28, dd "is_deal" 17, dd "look" 18, dd "parting" 30, dd "_law_all_deals" 79, dd "sure_places" 29, dd "_law_called_then" 83, dd "_law_named" 84, dd "law" 85]
def fa : List He.Fa := [.glo "_law_cell", .glo "_law_sizes", .glo "_law_pick", .glo "_law_seed", .glo "_law_deal", .glo "_law_asks", .glo "_law_turn", .glo "_law_turned", .glo "is_within", .glo "look_size", .glo "look_many", .glo "look_asks", .glo "look_turns", .glo "every_deal", .glo "short_way", .glo "turns_told", .glo "heard_deals", .glo "deals_by", .glo "is_deal", .glo "look", .glo "parting", .glo "_law_all_deals", .glo "sure_places", .glo "_law_called_then", .glo "_law_named", .glo "law", .free "bool", .free "int", .free "isinstance", .free "len", .free "list", .free "min", .free "range", .free "set", .free "tuple", .int "MOST_ASKS" 24, .int "MOST_PLACES" 7, .int "MOST_THINGS" 6, .exm "NoSize" "NoSize" true, .exm "NoSize" "NoWeights" false, .exm "NoSize" "NoDeal" false, .exm "NoSize" "NoAsks" false, .exm "NoSize" "NoPlace" false, .exm "NoSize" "NoCount" false, .exm "NoSize" "NoThing" false, .exm "NoWeights" "NoSize" false, .exm "NoWeights" "NoWeights" true, .exm "NoWeights" "NoDeal" false, .exm "NoWeights" "NoAsks" false, .exm "NoWeights" "NoPlace" false, .exm "NoWeights" "NoCount" false, .exm "NoWeights" "NoThing" false, .exm "NoDeal" "NoSize" false, .exm "NoDeal" "NoWeights" false, .exm "NoDeal" "NoDeal" true, .exm "NoDeal" "NoAsks" false, .exm "NoDeal" "NoPlace" false, .exm "NoDeal" "NoCount" false, .exm "NoDeal" "NoThing" false, .exm "NoAsks" "NoSize" false, .exm "NoAsks" "NoWeights" false, .exm "NoAsks" "NoDeal" false, .exm "NoAsks" "NoAsks" true, .exm "NoAsks" "NoPlace" false, .exm "NoAsks" "NoCount" false, .exm "NoAsks" "NoThing" false, .exm "NoThing" "NoSize" false, .exm "NoThing" "NoWeights" false, .exm "NoThing" "NoDeal" false, .exm "NoThing" "NoAsks" false, .exm "NoThing" "NoPlace" false, .exm "NoThing" "NoCount" false, .exm "NoThing" "NoThing" true, .exm "NoPlace" "NoSize" false, .exm "NoPlace" "NoWeights" false, .exm "NoPlace" "NoDeal" false, .exm "NoPlace" "NoAsks" false, .exm "NoPlace" "NoPlace" true, .exm "NoPlace" "NoCount" false, .exm "NoPlace" "NoThing" false, .exm "NoCount" "NoSize" false, .exm "NoCount" "NoWeights" false, .exm "NoCount" "NoDeal" false, .exm "NoCount" "NoAsks" false, .exm "NoCount" "NoPlace" false, .exm "NoCount" "NoCount" true, .exm "NoCount" "NoThing" false, .exm "Nothing" "NoSize" false, .exm "Nothing" "NoWeights" false, .exm "Nothing" "NoDeal" false, .exm "Nothing" "NoAsks" false, .exm "Nothing" "NoPlace" false, .exm "Nothing" "NoCount" false, .exm "Nothing" "NoThing" false, .exc "NoAsks", .glo "NoAsks", .exc "NoCount", .glo "NoCount", .exc "NoDeal", .glo "NoDeal", .exc "NoPlace", .glo "NoPlace", .exc "NoSize", .glo "NoSize", .exc "NoThing", .glo "NoThing", .exc "NoWeights", .glo "NoWeights"]
abbrev Rw : PySem.W.OpenRow := PySem.W.OpenLaw.row PySem.Challenge.rw_placeround_k22_turns_heard
abbrev hk : PySem.W.Hook := hookL 4 fa fn
def ob (s : PySem.W.SharedT) : He.AlD × Bool := obL 4 fa fn (HandSHeadRun.getT s)
theorem ob_eq (s : PySem.W.SharedT) : ob s = hk.obs s.abs := obL_eq (HandSHeadRun.getT_eq s)
def names0 : List PySem.Str := ["_wall", "RoundError", "NoSize", "NoWeights", "NoDeal", "NoAsks", "NoThing", "NoPlace", "NoCount", "Nothing", "MOST_PLACES", "MOST_THINGS", "MOST_ASKS", "is_within", "look_size", "is_deal", "look", "look_asks", "look_weights", "look_many", "short_way", "turns_told", "every_deal", "look_turns", "heard_deals", "deals_by", "sure_places", "parting", "MOST_DOORS", "look_doors"]
def names1 : List PySem.Str := ["rests", "least_by_doors", "doors_for", "Keeper", "MOST_BY", "turned_by", "led_round", "mirror", "mirrored", "likes_of", "likes", "kind", "kinds", "look_errand", "far_for", "orders_of", "best_of", "least_order", "nearest_order", "look_uses", "heavy", "divisor", "fraction", "mean", "least_mean", "MOST_CALLS", "MOST_TICK", "look_calls", "told_ticks", "longest_of"]
def names2 : List PySem.Str := ["done_at", "longest", "calmest", "_law_cell", "_law_seed", "_law_pick", "_law_deal", "_law_asks", "_law_turn", "_law_all_deals", "_law_sizes", "_law_turned", "_law_called", "_law_called_then", "_law_named"]
def names : List PySem.Str := names0 ++ names1 ++ names2
theorem run (w : World) : HandSHeadRun.RunEq Rw (PySem.W.view Rw.prog [85]) hk ob 20000 names w := by
  intro os
  kernel_rfl
theorem tx {K : PySem.W.Frag} {h : Heap} {mg : Str → Option Value} (X : K.In h) (G : h.Ns mainGlobals mg) (c : He.SaysD fa fn K) : Tx K mg :=
  ⟨c.def_ 0 (d := dd "_law_cell" 73) rfl,
    He.glo_ok X G (c.fact 0 (f := .glo "_law_cell") rfl),
    c.def_ 1 (d := dd "_law_sizes" 80) rfl,
    He.glo_ok X G (c.fact 1 (f := .glo "_law_sizes") rfl),
    c.def_ 2 (d := dd "_law_pick" 75) rfl,
    He.glo_ok X G (c.fact 2 (f := .glo "_law_pick") rfl),
    c.def_ 3 (d := dd "_law_seed" 74) rfl,
    He.glo_ok X G (c.fact 3 (f := .glo "_law_seed") rfl),
    c.def_ 4 (d := dd "_law_deal" 76) rfl,
    He.glo_ok X G (c.fact 4 (f := .glo "_law_deal") rfl),
    c.def_ 5 (d := dd "_law_asks" 77) rfl,
    He.glo_ok X G (c.fact 5 (f := .glo "_law_asks") rfl),
    c.def_ 6 (d := dd "_law_turn" 78) rfl,
    He.glo_ok X G (c.fact 6 (f := .glo "_law_turn") rfl),
    c.def_ 7 (d := dd "_law_turned" 81) rfl,
    He.glo_ok X G (c.fact 7 (f := .glo "_law_turned") rfl),
    c.def_ 8 (d := dd "is_within" 15) rfl,
    He.glo_ok X G (c.fact 8 (f := .glo "is_within") rfl),
    c.def_ 9 (d := dd "look_size" 16) rfl,
    He.glo_ok X G (c.fact 9 (f := .glo "look_size") rfl),
    c.def_ 10 (d := dd "look_many" 21) rfl,
    He.glo_ok X G (c.fact 10 (f := .glo "look_many") rfl),
    c.def_ 11 (d := dd "look_asks" 19) rfl,
    He.glo_ok X G (c.fact 11 (f := .glo "look_asks") rfl),
    c.def_ 12 (d := dd "look_turns" 26) rfl,
    He.glo_ok X G (c.fact 12 (f := .glo "look_turns") rfl),
    c.def_ 13 (d := dd "every_deal" 24) rfl,
    He.glo_ok X G (c.fact 13 (f := .glo "every_deal") rfl),
    c.def_ 14 (d := dd "short_way" 22) rfl,
    He.glo_ok X G (c.fact 14 (f := .glo "short_way") rfl),
    c.def_ 15 (d := dd "turns_told" 23) rfl,
    He.glo_ok X G (c.fact 15 (f := .glo "turns_told") rfl),
    c.def_ 16 (d := dd "heard_deals" 27) rfl,
    He.glo_ok X G (c.fact 16 (f := .glo "heard_deals") rfl),
    c.def_ 17 (d := dd "deals_by" 28) rfl,
    He.glo_ok X G (c.fact 17 (f := .glo "deals_by") rfl),
    c.def_ 18 (d := dd "is_deal" 17) rfl,
    He.glo_ok X G (c.fact 18 (f := .glo "is_deal") rfl),
    c.def_ 19 (d := dd "look" 18) rfl,
    He.glo_ok X G (c.fact 19 (f := .glo "look") rfl),
    c.def_ 20 (d := dd "parting" 30) rfl,
    He.glo_ok X G (c.fact 20 (f := .glo "parting") rfl),
    c.def_ 21 (d := dd "_law_all_deals" 79) rfl,
    He.glo_ok X G (c.fact 21 (f := .glo "_law_all_deals") rfl),
    c.def_ 22 (d := dd "sure_places" 29) rfl,
    He.glo_ok X G (c.fact 22 (f := .glo "sure_places") rfl),
    c.def_ 23 (d := dd "_law_called_then" 83) rfl,
    He.glo_ok X G (c.fact 23 (f := .glo "_law_called_then") rfl),
    c.def_ 24 (d := dd "_law_named" 84) rfl,
    He.glo_ok X G (c.fact 24 (f := .glo "_law_named") rfl),
    c.def_ 25 (d := dd "law" 85) rfl,
    He.glo_ok X G (c.fact 25 (f := .glo "law") rfl),
    He.free_ok X G (c.fact 26 (f := .free "bool") rfl),
    He.free_ok X G (c.fact 27 (f := .free "int") rfl),
    He.free_ok X G (c.fact 28 (f := .free "isinstance") rfl),
    He.free_ok X G (c.fact 29 (f := .free "len") rfl),
    He.free_ok X G (c.fact 30 (f := .free "list") rfl),
    He.free_ok X G (c.fact 31 (f := .free "min") rfl),
    He.free_ok X G (c.fact 32 (f := .free "range") rfl),
    He.free_ok X G (c.fact 33 (f := .free "set") rfl),
    He.free_ok X G (c.fact 34 (f := .free "tuple") rfl),
    He.int_ok X G (c.fact 35 (f := .int "MOST_ASKS" 24) rfl),
    He.int_ok X G (c.fact 36 (f := .int "MOST_PLACES" 7) rfl),
    He.int_ok X G (c.fact 37 (f := .int "MOST_THINGS" 6) rfl),
    (isa_cons (isaR_cons (He.exm_ok (c.fact 38 (f := .exm "NoSize" "NoSize" true) rfl)) (isaR_cons (He.exm_ok (c.fact 39 (f := .exm "NoSize" "NoWeights" false) rfl)) (isaR_cons (He.exm_ok (c.fact 40 (f := .exm "NoSize" "NoDeal" false) rfl)) (isaR_cons (He.exm_ok (c.fact 41 (f := .exm "NoSize" "NoAsks" false) rfl)) (isaR_cons (He.exm_ok (c.fact 42 (f := .exm "NoSize" "NoPlace" false) rfl)) (isaR_cons (He.exm_ok (c.fact 43 (f := .exm "NoSize" "NoCount" false) rfl)) (isaR_cons (He.exm_ok (c.fact 44 (f := .exm "NoSize" "NoThing" false) rfl)) isaR_nil))))))) (isa_cons (isaR_cons (He.exm_ok (c.fact 45 (f := .exm "NoWeights" "NoSize" false) rfl)) (isaR_cons (He.exm_ok (c.fact 46 (f := .exm "NoWeights" "NoWeights" true) rfl)) (isaR_cons (He.exm_ok (c.fact 47 (f := .exm "NoWeights" "NoDeal" false) rfl)) (isaR_cons (He.exm_ok (c.fact 48 (f := .exm "NoWeights" "NoAsks" false) rfl)) (isaR_cons (He.exm_ok (c.fact 49 (f := .exm "NoWeights" "NoPlace" false) rfl)) (isaR_cons (He.exm_ok (c.fact 50 (f := .exm "NoWeights" "NoCount" false) rfl)) (isaR_cons (He.exm_ok (c.fact 51 (f := .exm "NoWeights" "NoThing" false) rfl)) isaR_nil))))))) (isa_cons (isaR_cons (He.exm_ok (c.fact 52 (f := .exm "NoDeal" "NoSize" false) rfl)) (isaR_cons (He.exm_ok (c.fact 53 (f := .exm "NoDeal" "NoWeights" false) rfl)) (isaR_cons (He.exm_ok (c.fact 54 (f := .exm "NoDeal" "NoDeal" true) rfl)) (isaR_cons (He.exm_ok (c.fact 55 (f := .exm "NoDeal" "NoAsks" false) rfl)) (isaR_cons (He.exm_ok (c.fact 56 (f := .exm "NoDeal" "NoPlace" false) rfl)) (isaR_cons (He.exm_ok (c.fact 57 (f := .exm "NoDeal" "NoCount" false) rfl)) (isaR_cons (He.exm_ok (c.fact 58 (f := .exm "NoDeal" "NoThing" false) rfl)) isaR_nil))))))) (isa_cons (isaR_cons (He.exm_ok (c.fact 59 (f := .exm "NoAsks" "NoSize" false) rfl)) (isaR_cons (He.exm_ok (c.fact 60 (f := .exm "NoAsks" "NoWeights" false) rfl)) (isaR_cons (He.exm_ok (c.fact 61 (f := .exm "NoAsks" "NoDeal" false) rfl)) (isaR_cons (He.exm_ok (c.fact 62 (f := .exm "NoAsks" "NoAsks" true) rfl)) (isaR_cons (He.exm_ok (c.fact 63 (f := .exm "NoAsks" "NoPlace" false) rfl)) (isaR_cons (He.exm_ok (c.fact 64 (f := .exm "NoAsks" "NoCount" false) rfl)) (isaR_cons (He.exm_ok (c.fact 65 (f := .exm "NoAsks" "NoThing" false) rfl)) isaR_nil))))))) (isa_cons (isaR_cons (He.exm_ok (c.fact 66 (f := .exm "NoThing" "NoSize" false) rfl)) (isaR_cons (He.exm_ok (c.fact 67 (f := .exm "NoThing" "NoWeights" false) rfl)) (isaR_cons (He.exm_ok (c.fact 68 (f := .exm "NoThing" "NoDeal" false) rfl)) (isaR_cons (He.exm_ok (c.fact 69 (f := .exm "NoThing" "NoAsks" false) rfl)) (isaR_cons (He.exm_ok (c.fact 70 (f := .exm "NoThing" "NoPlace" false) rfl)) (isaR_cons (He.exm_ok (c.fact 71 (f := .exm "NoThing" "NoCount" false) rfl)) (isaR_cons (He.exm_ok (c.fact 72 (f := .exm "NoThing" "NoThing" true) rfl)) isaR_nil))))))) (isa_cons (isaR_cons (He.exm_ok (c.fact 73 (f := .exm "NoPlace" "NoSize" false) rfl)) (isaR_cons (He.exm_ok (c.fact 74 (f := .exm "NoPlace" "NoWeights" false) rfl)) (isaR_cons (He.exm_ok (c.fact 75 (f := .exm "NoPlace" "NoDeal" false) rfl)) (isaR_cons (He.exm_ok (c.fact 76 (f := .exm "NoPlace" "NoAsks" false) rfl)) (isaR_cons (He.exm_ok (c.fact 77 (f := .exm "NoPlace" "NoPlace" true) rfl)) (isaR_cons (He.exm_ok (c.fact 78 (f := .exm "NoPlace" "NoCount" false) rfl)) (isaR_cons (He.exm_ok (c.fact 79 (f := .exm "NoPlace" "NoThing" false) rfl)) isaR_nil))))))) (isa_cons (isaR_cons (He.exm_ok (c.fact 80 (f := .exm "NoCount" "NoSize" false) rfl)) (isaR_cons (He.exm_ok (c.fact 81 (f := .exm "NoCount" "NoWeights" false) rfl)) (isaR_cons (He.exm_ok (c.fact 82 (f := .exm "NoCount" "NoDeal" false) rfl)) (isaR_cons (He.exm_ok (c.fact 83 (f := .exm "NoCount" "NoAsks" false) rfl)) (isaR_cons (He.exm_ok (c.fact 84 (f := .exm "NoCount" "NoPlace" false) rfl)) (isaR_cons (He.exm_ok (c.fact 85 (f := .exm "NoCount" "NoCount" true) rfl)) (isaR_cons (He.exm_ok (c.fact 86 (f := .exm "NoCount" "NoThing" false) rfl)) isaR_nil))))))) (isa_cons (isaR_cons (He.exm_ok (c.fact 87 (f := .exm "Nothing" "NoSize" false) rfl)) (isaR_cons (He.exm_ok (c.fact 88 (f := .exm "Nothing" "NoWeights" false) rfl)) (isaR_cons (He.exm_ok (c.fact 89 (f := .exm "Nothing" "NoDeal" false) rfl)) (isaR_cons (He.exm_ok (c.fact 90 (f := .exm "Nothing" "NoAsks" false) rfl)) (isaR_cons (He.exm_ok (c.fact 91 (f := .exm "Nothing" "NoPlace" false) rfl)) (isaR_cons (He.exm_ok (c.fact 92 (f := .exm "Nothing" "NoCount" false) rfl)) (isaR_cons (He.exm_ok (c.fact 93 (f := .exm "Nothing" "NoThing" false) rfl)) isaR_nil))))))) isa_nil)))))))),
    ⟨He.glo_ok X G (c.fact 95 (f := .glo "NoAsks") rfl), (He.exc_ok (c.fact 94 (f := .exc "NoAsks") rfl)).1, (He.exc_ok (c.fact 94 (f := .exc "NoAsks") rfl)).2.1, (He.exc_ok (c.fact 94 (f := .exc "NoAsks") rfl)).2.2.1, (He.exc_ok (c.fact 94 (f := .exc "NoAsks") rfl)).2.2.2⟩,
    ⟨He.glo_ok X G (c.fact 97 (f := .glo "NoCount") rfl), (He.exc_ok (c.fact 96 (f := .exc "NoCount") rfl)).1, (He.exc_ok (c.fact 96 (f := .exc "NoCount") rfl)).2.1, (He.exc_ok (c.fact 96 (f := .exc "NoCount") rfl)).2.2.1, (He.exc_ok (c.fact 96 (f := .exc "NoCount") rfl)).2.2.2⟩,
    ⟨He.glo_ok X G (c.fact 99 (f := .glo "NoDeal") rfl), (He.exc_ok (c.fact 98 (f := .exc "NoDeal") rfl)).1, (He.exc_ok (c.fact 98 (f := .exc "NoDeal") rfl)).2.1, (He.exc_ok (c.fact 98 (f := .exc "NoDeal") rfl)).2.2.1, (He.exc_ok (c.fact 98 (f := .exc "NoDeal") rfl)).2.2.2⟩,
    ⟨He.glo_ok X G (c.fact 101 (f := .glo "NoPlace") rfl), (He.exc_ok (c.fact 100 (f := .exc "NoPlace") rfl)).1, (He.exc_ok (c.fact 100 (f := .exc "NoPlace") rfl)).2.1, (He.exc_ok (c.fact 100 (f := .exc "NoPlace") rfl)).2.2.1, (He.exc_ok (c.fact 100 (f := .exc "NoPlace") rfl)).2.2.2⟩,
    ⟨He.glo_ok X G (c.fact 103 (f := .glo "NoSize") rfl), (He.exc_ok (c.fact 102 (f := .exc "NoSize") rfl)).1, (He.exc_ok (c.fact 102 (f := .exc "NoSize") rfl)).2.1, (He.exc_ok (c.fact 102 (f := .exc "NoSize") rfl)).2.2.1, (He.exc_ok (c.fact 102 (f := .exc "NoSize") rfl)).2.2.2⟩,
    ⟨He.glo_ok X G (c.fact 105 (f := .glo "NoThing") rfl), (He.exc_ok (c.fact 104 (f := .exc "NoThing") rfl)).1, (He.exc_ok (c.fact 104 (f := .exc "NoThing") rfl)).2.1, (He.exc_ok (c.fact 104 (f := .exc "NoThing") rfl)).2.2.1, (He.exc_ok (c.fact 104 (f := .exc "NoThing") rfl)).2.2.2⟩,
    ⟨He.glo_ok X G (c.fact 107 (f := .glo "NoWeights") rfl), (He.exc_ok (c.fact 106 (f := .exc "NoWeights") rfl)).1, (He.exc_ok (c.fact 106 (f := .exc "NoWeights") rfl)).2.1, (He.exc_ok (c.fact 106 (f := .exc "NoWeights") rfl)).2.2.1, (He.exc_ok (c.fact 106 (f := .exc "NoWeights") rfl)).2.2.2⟩⟩
theorem law_ok {P : Program} {w : World} {K : PySem.W.Frag} {mg : Str → Option Value} {base : Heap} {fd : FuncData} (T : Tx K mg) (F : FunD K "law" "law" (defArgs (top 85)) (defBody (top 85)) (defScope (top 85)) [] [] (He.ga K "law") fd) : FnOk P w K mg base (L2.CX P w) 7 (He.ga K "law") fd ["script"] (SpOf K 1 f_law) := by
  have G__law_cell : Good P w K mg base "_law_cell" 1 2 f__law_cell := g__law_cell T 
  have G__law_sizes : Good P w K mg base "_law_sizes" 2 2 f__law_sizes := g__law_sizes T G__law_cell
  have G__law_pick : Good P w K mg base "_law_pick" 1 2 f__law_pick := g__law_pick T 
  have G__law_seed : Good P w K mg base "_law_seed" 1 2 f__law_seed := g__law_seed T 
  have G__law_deal : Good P w K mg base "_law_deal" 2 3 f__law_deal := g__law_deal T G__law_pick G__law_seed
  have G__law_asks : Good P w K mg base "_law_asks" 2 3 f__law_asks := g__law_asks T G__law_pick G__law_seed
  have G__law_turn : Good P w K mg base "_law_turn" 1 3 f__law_turn := g__law_turn T 
  have G__law_turned : Good P w K mg base "_law_turned" 2 3 f__law_turned := g__law_turned T G__law_turn
  have GN__law_turned : GoodN P w K mg base "_law_turned" 2 3 n__law_turned := gn__law_turned T G__law_turn
  have G_is_within : Good P w K mg base "is_within" 1 3 f_is_within := g_is_within T 
  have G_look_size : Good P w K mg base "look_size" 2 1 f_look_size := g_look_size T G_is_within
  have G_look_many : Good P w K mg base "look_many" 3 2 f_look_many := g_look_many T G_look_size G_is_within
  have G_look_asks : Good P w K mg base "look_asks" 2 2 f_look_asks := g_look_asks T G_is_within
  have G_look_turns : Good P w K mg base "look_turns" 1 2 f_look_turns := g_look_turns T 
  have G_every_deal : Good P w K mg base "every_deal" 1 2 f_every_deal := g_every_deal T 
  have G_short_way : Good P w K mg base "short_way" 1 3 f_short_way := g_short_way T 
  have G_turns_told : Good P w K mg base "turns_told" 2 3 f_turns_told := g_turns_told T G_short_way
  have G_heard_deals : Good P w K mg base "heard_deals" 3 4 f_heard_deals := g_heard_deals T G_every_deal G_turns_told
  have G_deals_by : Good P w K mg base "deals_by" 4 4 f_deals_by := g_deals_by T G_look_many G_look_asks G_look_turns G_heard_deals
  have G_is_deal : Good P w K mg base "is_deal" 2 2 f_is_deal := g_is_deal T G_is_within
  have G_look : Good P w K mg base "look" 3 2 f_look := g_look T G_look_size G_is_deal
  have G_parting : Good P w K mg base "parting" 4 4 f_parting := g_parting T G_look G_is_deal G_look_asks G_turns_told
  have G__law_all_deals : Good P w K mg base "_law_all_deals" 1 2 f__law_all_deals := g__law_all_deals T 
  have G_sure_places : Good P w K mg base "sure_places" 4 4 f_sure_places := g_sure_places T G_look_many G_look_asks G_look_turns G_heard_deals
  have G__law_called_then : Good P w K mg base "_law_called_then" 5 2 f__law_called_then := g__law_called_then T G_deals_by G_sure_places G_parting
  have G__law_named : Good P w K mg base "_law_named" 6 2 f__law_named := g__law_named T G__law_called_then
  exact g_law T G__law_sizes G__law_deal G__law_seed G__law_cell G__law_asks G__law_turned G__law_all_deals G_deals_by G__law_named G_sure_places G_parting GN__law_turned F
end Lw

namespace Lw
open PySem L2 Fx
def cell (ns : List Int) (k : Nat) : Int := (ns[k]?).getD 0
theorem e_cell (ns : List Int) (k : Nat) (h : AH) : f__law_cell [.scr ns, .int k] h = .ok (.int (cell ns k)) h := by
  unfold f__law_cell m__law_cell cell
  simp only [a_mVar, a_mC, a_mUn, a_mBin, a_mIf, a_mAnd, a_mOr, a_mNot, a_mNil, a_mCons, a_mCallF, a_mFn, a_mTst, a_mVal, a_mChain, a_mCmp, a_mSq, a_mOwn, a_mQ, a_mQ2, a_m2Q, a_mLst, a_mDisp, a_mTup, a_mRepL, a_mSeq, a_mSkip, a_mDrop, a_mRet, a_mRetN, a_mIfS, a_mSet, a_mSetL, a_mRaise, a_mNever, a_mFor, a_mLc, a_mIt, a_mFnL, a_mEnum, a_mSlc, a_mLRng, a_mLOf, a_oNone, a_oSome, a_asN, a_asT, a_mFrz, a_mApp, a_mExt, a_mPopAt, a_mPop, a_mSetM, a_mSetT, a_mSetTM, a_mAppM, a_ownAt, a_bnd, a_bnd_exc, a_bndS, a_bndS_exc, a_bndM, a_lift, a_asL_nil, a_asL_cons, a_gSub, a_gNeg, a_gAdd, a_gAddT, a_gAddL, a_gMod, a_gFdiv, a_gPow, a_gLt, a_gLe, a_gGt, a_gGe, a_truth_bl, a_truth_int, a_truth_lst, a_truth_tup, a_truth_non, a_blD, a_sq_tup, a_sq_lst, a_sq_scr, a_it_tup, a_it_lst, a_it_scr, a_qLen, a_qAt, a_qTuple, a_qSum, a_rng1, a_gLRng, a_fMin2, a_fMax2, a_fMin3, a_fAbs, a_fIntB, a_fIntI, a_isi_non, a_isi_bl, a_isi_int, a_isi_str, a_isi_tup, a_isi_lst, a_isN, a_notN, a_ofT, a_ofL, a_qTruth, a_mZip, a_qSumB, a_mPar, a_mAugI, a_mWhile, a_mPut, a_mParL, a_mPar3, a_gRevT, a_gRevL, a_mZip3, a_mIns, a_gTRng, a_mRetO, a_mRetL, a_mCallL, a_mTry, a_mAugS, a_mCount, a_gCount, a_wipe_nil, a_wipe_cons, a_callM, a_callN, List.map_cons, List.map_nil, List.length_cons, List.length_nil, List.cons_append, List.nil_append, Nat.reduceAdd, Nat.reduceSub, Nat.zero_add, List.replicate_succ, List.replicate_zero, List.getElem?_cons_zero, List.getElem?_cons_succ, List.set_cons_zero, List.set_cons_succ, List.append_nil, if_true, if_false, Bool.true_eq_false, Bool.false_eq_true, decide_true, decide_false, Bool.not_true, Bool.not_false, Nat.reduceLeDiff, Nat.reduceLT, Int.reduceLT, Int.reduceLE, Option.map_some, Option.map_none, Int.reduceToNat, true_and, and_true, Int.reduceNeg, List.length_map]
  by_cases z : k < ns.length
  · rw [List.getElem?_eq_getElem z]
    simp [z, a_qAt, atI_n, a_mVar, a_mC, a_mUn, a_mBin, a_mIf, a_mAnd, a_mOr, a_mNot, a_mNil, a_mCons, a_mCallF, a_mFn, a_mTst, a_mVal, a_mChain, a_mCmp, a_mSq, a_mOwn, a_mQ, a_mQ2, a_m2Q, a_mLst, a_mDisp, a_mTup, a_mRepL, a_mSeq, a_mSkip, a_mDrop, a_mRet, a_mRetN, a_mIfS, a_mSet, a_mSetL, a_mRaise, a_mNever, a_mFor, a_mLc, a_mIt, a_mFnL, a_mEnum, a_mSlc, a_mLRng, a_mLOf, a_oNone, a_oSome, a_asN, a_asT, a_mFrz, a_mApp, a_mExt, a_mPopAt, a_mPop, a_mSetM, a_mSetT, a_mSetTM, a_mAppM, a_ownAt, a_bnd, a_bnd_exc, a_bndS, a_bndS_exc, a_bndM, a_lift, a_asL_nil, a_asL_cons, a_gSub, a_gNeg, a_gAdd, a_gAddT, a_gAddL, a_gMod, a_gFdiv, a_gPow, a_gLt, a_gLe, a_gGt, a_gGe, a_truth_bl, a_truth_int, a_truth_lst, a_truth_tup, a_truth_non, a_blD, a_sq_tup, a_sq_lst, a_sq_scr, a_it_tup, a_it_lst, a_it_scr, a_qLen, a_qAt, a_qTuple, a_qSum, a_rng1, a_gLRng, a_fMin2, a_fMax2, a_fMin3, a_fAbs, a_fIntB, a_fIntI, a_isi_non, a_isi_bl, a_isi_int, a_isi_str, a_isi_tup, a_isi_lst, a_isN, a_notN, a_ofT, a_ofL, a_qTruth, a_mZip, a_qSumB, a_mPar, a_mAugI, a_mWhile, a_mPut, a_mParL, a_mPar3, a_gRevT, a_gRevL, a_mZip3, a_mIns, a_gTRng, a_mRetO, a_mRetL, a_mCallL, a_mTry, a_mAugS, a_mCount, a_gCount, a_wipe_nil, a_wipe_cons, a_callM, a_callN, List.map_cons, List.map_nil, List.length_cons, List.length_nil, List.cons_append, List.nil_append, Nat.reduceAdd, Nat.reduceSub, Nat.zero_add, List.replicate_succ, List.replicate_zero, List.getElem?_cons_zero, List.getElem?_cons_succ, List.set_cons_zero, List.set_cons_succ, List.append_nil, if_true, if_false, Bool.true_eq_false, Bool.false_eq_true, decide_true, decide_false, Bool.not_true, Bool.not_false, Nat.reduceLeDiff, Nat.reduceLT, Int.reduceLT, Int.reduceLE, Option.map_some, Option.map_none, Int.reduceToNat, true_and, and_true, Int.reduceNeg]
  · rw [List.getElem?_eq_none (by omega)]
    simp [z, a_mVar, a_mC, a_mUn, a_mBin, a_mIf, a_mAnd, a_mOr, a_mNot, a_mNil, a_mCons, a_mCallF, a_mFn, a_mTst, a_mVal, a_mChain, a_mCmp, a_mSq, a_mOwn, a_mQ, a_mQ2, a_m2Q, a_mLst, a_mDisp, a_mTup, a_mRepL, a_mSeq, a_mSkip, a_mDrop, a_mRet, a_mRetN, a_mIfS, a_mSet, a_mSetL, a_mRaise, a_mNever, a_mFor, a_mLc, a_mIt, a_mFnL, a_mEnum, a_mSlc, a_mLRng, a_mLOf, a_oNone, a_oSome, a_asN, a_asT, a_mFrz, a_mApp, a_mExt, a_mPopAt, a_mPop, a_mSetM, a_mSetT, a_mSetTM, a_mAppM, a_ownAt, a_bnd, a_bnd_exc, a_bndS, a_bndS_exc, a_bndM, a_lift, a_asL_nil, a_asL_cons, a_gSub, a_gNeg, a_gAdd, a_gAddT, a_gAddL, a_gMod, a_gFdiv, a_gPow, a_gLt, a_gLe, a_gGt, a_gGe, a_truth_bl, a_truth_int, a_truth_lst, a_truth_tup, a_truth_non, a_blD, a_sq_tup, a_sq_lst, a_sq_scr, a_it_tup, a_it_lst, a_it_scr, a_qLen, a_qAt, a_qTuple, a_qSum, a_rng1, a_gLRng, a_fMin2, a_fMax2, a_fMin3, a_fAbs, a_fIntB, a_fIntI, a_isi_non, a_isi_bl, a_isi_int, a_isi_str, a_isi_tup, a_isi_lst, a_isN, a_notN, a_ofT, a_ofL, a_qTruth, a_mZip, a_qSumB, a_mPar, a_mAugI, a_mWhile, a_mPut, a_mParL, a_mPar3, a_gRevT, a_gRevL, a_mZip3, a_mIns, a_gTRng, a_mRetO, a_mRetL, a_mCallL, a_mTry, a_mAugS, a_mCount, a_gCount, a_wipe_nil, a_wipe_cons, a_callM, a_callN, List.map_cons, List.map_nil, List.length_cons, List.length_nil, List.cons_append, List.nil_append, Nat.reduceAdd, Nat.reduceSub, Nat.zero_add, List.replicate_succ, List.replicate_zero, List.getElem?_cons_zero, List.getElem?_cons_succ, List.set_cons_zero, List.set_cons_succ, List.append_nil, if_true, if_false, Bool.true_eq_false, Bool.false_eq_true, decide_true, decide_false, Bool.not_true, Bool.not_false, Nat.reduceLeDiff, Nat.reduceLT, Int.reduceLT, Int.reduceLE, Option.map_some, Option.map_none, Int.reduceToNat, true_and, and_true, Int.reduceNeg]
def seedF (s k : Int) : Int := ((s * 1103515245 + 7919 * k + 12345) % 2147483647) ^ 5 % 2147483647
theorem e_seed (s k : Int) (h : AH) : f__law_seed [.int s, .int k] h = .ok (.int (seedF s k)) h := by
  have b1 : 0 ≤ (s * 1103515245 + 7919 * k + 12345) % 2147483647 := Int.emod_nonneg _ (by decide)
  have b2 : (s * 1103515245 + 7919 * k + 12345) % 2147483647 < 2147483647 := Int.emod_lt_of_pos _ (by decide)
  have b3 : ((s * 1103515245 + 7919 * k + 12345) % 2147483647).natAbs < 18446744073709551616 := by omega
  unfold f__law_seed m__law_seed seedF
  simp [a_mVar, a_mC, a_mUn, a_mBin, a_mIf, a_mAnd, a_mOr, a_mNot, a_mNil, a_mCons, a_mCallF, a_mFn, a_mTst, a_mVal, a_mChain, a_mCmp, a_mSq, a_mOwn, a_mQ, a_mQ2, a_m2Q, a_mLst, a_mDisp, a_mTup, a_mRepL, a_mSeq, a_mSkip, a_mDrop, a_mRet, a_mRetN, a_mIfS, a_mSet, a_mSetL, a_mRaise, a_mNever, a_mFor, a_mLc, a_mIt, a_mFnL, a_mEnum, a_mSlc, a_mLRng, a_mLOf, a_oNone, a_oSome, a_asN, a_asT, a_mFrz, a_mApp, a_mExt, a_mPopAt, a_mPop, a_mSetM, a_mSetT, a_mSetTM, a_mAppM, a_ownAt, a_bnd, a_bnd_exc, a_bndS, a_bndS_exc, a_bndM, a_lift, a_asL_nil, a_asL_cons, a_gSub, a_gNeg, a_gAdd, a_gAddT, a_gAddL, a_gMod, a_gFdiv, a_gPow, a_gLt, a_gLe, a_gGt, a_gGe, a_truth_bl, a_truth_int, a_truth_lst, a_truth_tup, a_truth_non, a_blD, a_sq_tup, a_sq_lst, a_sq_scr, a_it_tup, a_it_lst, a_it_scr, a_qLen, a_qAt, a_qTuple, a_qSum, a_rng1, a_gLRng, a_fMin2, a_fMax2, a_fMin3, a_fAbs, a_fIntB, a_fIntI, a_isi_non, a_isi_bl, a_isi_int, a_isi_str, a_isi_tup, a_isi_lst, a_isN, a_notN, a_ofT, a_ofL, a_qTruth, a_mZip, a_qSumB, a_mPar, a_mAugI, a_mWhile, a_mPut, a_mParL, a_mPar3, a_gRevT, a_gRevL, a_mZip3, a_mIns, a_gTRng, a_mRetO, a_mRetL, a_mCallL, a_mTry, a_mAugS, a_mCount, a_gCount, a_wipe_nil, a_wipe_cons, a_callM, a_callN, List.map_cons, List.map_nil, List.length_cons, List.length_nil, List.cons_append, List.nil_append, Nat.reduceAdd, Nat.reduceSub, Nat.zero_add, List.replicate_succ, List.replicate_zero, List.getElem?_cons_zero, List.getElem?_cons_succ, List.set_cons_zero, List.set_cons_succ, List.append_nil, if_true, if_false, Bool.true_eq_false, Bool.false_eq_true, decide_true, decide_false, Bool.not_true, Bool.not_false, Nat.reduceLeDiff, Nat.reduceLT, Int.reduceLT, Int.reduceLE, Option.map_some, Option.map_none, Int.reduceToNat, true_and, and_true, Int.reduceNeg, a_gMulI, b3]
theorem e_pick (s n : Int) (hn : 0 < n) (h : AH) : f__law_pick [.int s, .int n] h = .ok (.int (s / 97 % n)) h := by
  unfold f__law_pick m__law_pick
  simp [a_mVar, a_mC, a_mUn, a_mBin, a_mIf, a_mAnd, a_mOr, a_mNot, a_mNil, a_mCons, a_mCallF, a_mFn, a_mTst, a_mVal, a_mChain, a_mCmp, a_mSq, a_mOwn, a_mQ, a_mQ2, a_m2Q, a_mLst, a_mDisp, a_mTup, a_mRepL, a_mSeq, a_mSkip, a_mDrop, a_mRet, a_mRetN, a_mIfS, a_mSet, a_mSetL, a_mRaise, a_mNever, a_mFor, a_mLc, a_mIt, a_mFnL, a_mEnum, a_mSlc, a_mLRng, a_mLOf, a_oNone, a_oSome, a_asN, a_asT, a_mFrz, a_mApp, a_mExt, a_mPopAt, a_mPop, a_mSetM, a_mSetT, a_mSetTM, a_mAppM, a_ownAt, a_bnd, a_bnd_exc, a_bndS, a_bndS_exc, a_bndM, a_lift, a_asL_nil, a_asL_cons, a_gSub, a_gNeg, a_gAdd, a_gAddT, a_gAddL, a_gMod, a_gFdiv, a_gPow, a_gLt, a_gLe, a_gGt, a_gGe, a_truth_bl, a_truth_int, a_truth_lst, a_truth_tup, a_truth_non, a_blD, a_sq_tup, a_sq_lst, a_sq_scr, a_it_tup, a_it_lst, a_it_scr, a_qLen, a_qAt, a_qTuple, a_qSum, a_rng1, a_gLRng, a_fMin2, a_fMax2, a_fMin3, a_fAbs, a_fIntB, a_fIntI, a_isi_non, a_isi_bl, a_isi_int, a_isi_str, a_isi_tup, a_isi_lst, a_isN, a_notN, a_ofT, a_ofL, a_qTruth, a_mZip, a_qSumB, a_mPar, a_mAugI, a_mWhile, a_mPut, a_mParL, a_mPar3, a_gRevT, a_gRevL, a_mZip3, a_mIns, a_gTRng, a_mRetO, a_mRetL, a_mCallL, a_mTry, a_mAugS, a_mCount, a_gCount, a_wipe_nil, a_wipe_cons, a_callM, a_callN, List.map_cons, List.map_nil, List.length_cons, List.length_nil, List.cons_append, List.nil_append, Nat.reduceAdd, Nat.reduceSub, Nat.zero_add, List.replicate_succ, List.replicate_zero, List.getElem?_cons_zero, List.getElem?_cons_succ, List.set_cons_zero, List.set_cons_succ, List.append_nil, if_true, if_false, Bool.true_eq_false, Bool.false_eq_true, decide_true, decide_false, Bool.not_true, Bool.not_false, Nat.reduceLeDiff, Nat.reduceLT, Int.reduceLT, Int.reduceLE, Option.map_some, Option.map_none, Int.reduceToNat, true_and, and_true, Int.reduceNeg, hn]
/-- places dealt -/
structure Deal (size many : Nat) (d : List Int) : Prop where
  len : d.length = many
  nd : d.Nodup
  rg : ∀ x ∈ d, 0 ≤ x ∧ x < size
theorem nodup_cast : ∀ l : List Nat, l.Nodup → (l.map fun (i : Nat) => (i : Int)).Nodup
  | [], _ => List.nodup_nil
  | a :: l, h => by
    obtain ⟨h1, h2⟩ := List.nodup_cons.mp h
    rw [List.map_cons, List.nodup_cons]
    refine ⟨fun z => h1 ?_, nodup_cast l h2⟩
    obtain ⟨b, hb, e⟩ := List.mem_map.mp z
    rw [← Int.ofNat.inj e]
    exact hb
theorem erase_map {α β : Type} (f : α → β) : ∀ (l : List α) (i : Nat), (l.map f).eraseIdx i = (l.eraseIdx i).map f
  | [], _ => rfl
  | _ :: _, 0 => rfl
  | a :: l, i + 1 => by rw [List.map_cons, List.eraseIdx_cons_succ, List.eraseIdx_cons_succ, List.map_cons, erase_map]
theorem pick_perm {α : Type} : ∀ (l : List α) (i : Nat) (h : i < l.length), (l[i] :: l.eraseIdx i).Perm l
  | a :: l, 0, _ => List.Perm.refl _
  | a :: l, i + 1, h => by
    rw [List.getElem_cons_succ, List.eraseIdx_cons_succ]
    exact (List.Perm.swap _ _ _).trans (List.Perm.cons _ (pick_perm l i (by simpa using h)))
theorem e_deal (seed : Int) (size many : Nat) (h1 : many ≤ size) (h2 : size ≤ 100) (h : AH) : ∃ d, Deal size many d ∧ f__law_deal [.int seed, .int size, .int many] h = .ok (tupI d) h := by
  unfold f__law_deal m__law_deal
  simp only [a_mVar, a_mC, a_mUn, a_mBin, a_mIf, a_mAnd, a_mOr, a_mNot, a_mNil, a_mCons, a_mCallF, a_mFn, a_mTst, a_mVal, a_mChain, a_mCmp, a_mSq, a_mOwn, a_mQ, a_mQ2, a_m2Q, a_mLst, a_mDisp, a_mTup, a_mRepL, a_mSeq, a_mSkip, a_mDrop, a_mRet, a_mRetN, a_mIfS, a_mSet, a_mSetL, a_mRaise, a_mNever, a_mFor, a_mLc, a_mIt, a_mFnL, a_mEnum, a_mSlc, a_mLRng, a_mLOf, a_oNone, a_oSome, a_asN, a_asT, a_mFrz, a_mApp, a_mExt, a_mPopAt, a_mPop, a_mSetM, a_mSetT, a_mSetTM, a_mAppM, a_ownAt, a_bnd, a_bnd_exc, a_bndS, a_bndS_exc, a_bndM, a_lift, a_asL_nil, a_asL_cons, a_gSub, a_gNeg, a_gAdd, a_gAddT, a_gAddL, a_gMod, a_gFdiv, a_gPow, a_gLt, a_gLe, a_gGt, a_gGe, a_truth_bl, a_truth_int, a_truth_lst, a_truth_tup, a_truth_non, a_blD, a_sq_tup, a_sq_lst, a_sq_scr, a_it_tup, a_it_lst, a_it_scr, a_qLen, a_qAt, a_qTuple, a_qSum, a_rng1, a_gLRng, a_fMin2, a_fMax2, a_fMin3, a_fAbs, a_fIntB, a_fIntI, a_isi_non, a_isi_bl, a_isi_int, a_isi_str, a_isi_tup, a_isi_lst, a_isN, a_notN, a_ofT, a_ofL, a_qTruth, a_mZip, a_qSumB, a_mPar, a_mAugI, a_mWhile, a_mPut, a_mParL, a_mPar3, a_gRevT, a_gRevL, a_mZip3, a_mIns, a_gTRng, a_mRetO, a_mRetL, a_mCallL, a_mTry, a_mAugS, a_mCount, a_gCount, a_wipe_nil, a_wipe_cons, a_callM, a_callN, List.map_cons, List.map_nil, List.length_cons, List.length_nil, List.cons_append, List.nil_append, Nat.reduceAdd, Nat.reduceSub, Nat.zero_add, List.replicate_succ, List.replicate_zero, List.getElem?_cons_zero, List.getElem?_cons_succ, List.set_cons_zero, List.set_cons_succ, List.append_nil, if_true, if_false, Bool.true_eq_false, Bool.false_eq_true, decide_true, decide_false, Bool.not_true, Bool.not_false, Nat.reduceLeDiff, Nat.reduceLT, Int.reduceLT, Int.reduceLE, Option.map_some, Option.map_none, Int.reduceToNat, true_and, and_true, Int.reduceNeg]
  rw [if_pos (by omega)]
  simp only [a_mVar, a_mC, a_mUn, a_mBin, a_mIf, a_mAnd, a_mOr, a_mNot, a_mNil, a_mCons, a_mCallF, a_mFn, a_mTst, a_mVal, a_mChain, a_mCmp, a_mSq, a_mOwn, a_mQ, a_mQ2, a_m2Q, a_mLst, a_mDisp, a_mTup, a_mRepL, a_mSeq, a_mSkip, a_mDrop, a_mRet, a_mRetN, a_mIfS, a_mSet, a_mSetL, a_mRaise, a_mNever, a_mFor, a_mLc, a_mIt, a_mFnL, a_mEnum, a_mSlc, a_mLRng, a_mLOf, a_oNone, a_oSome, a_asN, a_asT, a_mFrz, a_mApp, a_mExt, a_mPopAt, a_mPop, a_mSetM, a_mSetT, a_mSetTM, a_mAppM, a_ownAt, a_bnd, a_bnd_exc, a_bndS, a_bndS_exc, a_bndM, a_lift, a_asL_nil, a_asL_cons, a_gSub, a_gNeg, a_gAdd, a_gAddT, a_gAddL, a_gMod, a_gFdiv, a_gPow, a_gLt, a_gLe, a_gGt, a_gGe, a_truth_bl, a_truth_int, a_truth_lst, a_truth_tup, a_truth_non, a_blD, a_sq_tup, a_sq_lst, a_sq_scr, a_it_tup, a_it_lst, a_it_scr, a_qLen, a_qAt, a_qTuple, a_qSum, a_rng1, a_gLRng, a_fMin2, a_fMax2, a_fMin3, a_fAbs, a_fIntB, a_fIntI, a_isi_non, a_isi_bl, a_isi_int, a_isi_str, a_isi_tup, a_isi_lst, a_isN, a_notN, a_ofT, a_ofL, a_qTruth, a_mZip, a_qSumB, a_mPar, a_mAugI, a_mWhile, a_mPut, a_mParL, a_mPar3, a_gRevT, a_gRevL, a_mZip3, a_mIns, a_gTRng, a_mRetO, a_mRetL, a_mCallL, a_mTry, a_mAugS, a_mCount, a_gCount, a_wipe_nil, a_wipe_cons, a_callM, a_callN, List.map_cons, List.map_nil, List.length_cons, List.length_nil, List.cons_append, List.nil_append, Nat.reduceAdd, Nat.reduceSub, Nat.zero_add, List.replicate_succ, List.replicate_zero, List.getElem?_cons_zero, List.getElem?_cons_succ, List.set_cons_zero, List.set_cons_succ, List.append_nil, if_true, if_false, Bool.true_eq_false, Bool.false_eq_true, decide_true, decide_false, Bool.not_true, Bool.not_false, Nat.reduceLeDiff, Nat.reduceLT, Int.reduceLT, Int.reduceLE, Option.map_some, Option.map_none, Int.reduceToNat, true_and, and_true, Int.reduceNeg]
  rw [if_pos (by omega)]
  simp only [a_mVar, a_mC, a_mUn, a_mBin, a_mIf, a_mAnd, a_mOr, a_mNot, a_mNil, a_mCons, a_mCallF, a_mFn, a_mTst, a_mVal, a_mChain, a_mCmp, a_mSq, a_mOwn, a_mQ, a_mQ2, a_m2Q, a_mLst, a_mDisp, a_mTup, a_mRepL, a_mSeq, a_mSkip, a_mDrop, a_mRet, a_mRetN, a_mIfS, a_mSet, a_mSetL, a_mRaise, a_mNever, a_mFor, a_mLc, a_mIt, a_mFnL, a_mEnum, a_mSlc, a_mLRng, a_mLOf, a_oNone, a_oSome, a_asN, a_asT, a_mFrz, a_mApp, a_mExt, a_mPopAt, a_mPop, a_mSetM, a_mSetT, a_mSetTM, a_mAppM, a_ownAt, a_bnd, a_bnd_exc, a_bndS, a_bndS_exc, a_bndM, a_lift, a_asL_nil, a_asL_cons, a_gSub, a_gNeg, a_gAdd, a_gAddT, a_gAddL, a_gMod, a_gFdiv, a_gPow, a_gLt, a_gLe, a_gGt, a_gGe, a_truth_bl, a_truth_int, a_truth_lst, a_truth_tup, a_truth_non, a_blD, a_sq_tup, a_sq_lst, a_sq_scr, a_it_tup, a_it_lst, a_it_scr, a_qLen, a_qAt, a_qTuple, a_qSum, a_rng1, a_gLRng, a_fMin2, a_fMax2, a_fMin3, a_fAbs, a_fIntB, a_fIntI, a_isi_non, a_isi_bl, a_isi_int, a_isi_str, a_isi_tup, a_isi_lst, a_isN, a_notN, a_ofT, a_ofL, a_qTruth, a_mZip, a_qSumB, a_mPar, a_mAugI, a_mWhile, a_mPut, a_mParL, a_mPar3, a_gRevT, a_gRevL, a_mZip3, a_mIns, a_gTRng, a_mRetO, a_mRetL, a_mCallL, a_mTry, a_mAugS, a_mCount, a_gCount, a_wipe_nil, a_wipe_cons, a_callM, a_callN, List.map_cons, List.map_nil, List.length_cons, List.length_nil, List.cons_append, List.nil_append, Nat.reduceAdd, Nat.reduceSub, Nat.zero_add, List.replicate_succ, List.replicate_zero, List.getElem?_cons_zero, List.getElem?_cons_succ, List.set_cons_zero, List.set_cons_succ, List.append_nil, if_true, if_false, Bool.true_eq_false, Bool.false_eq_true, decide_true, decide_false, Bool.not_true, Bool.not_false, Nat.reduceLeDiff, Nat.reduceLT, Int.reduceLT, Int.reduceLE, Option.map_some, Option.map_none, Int.reduceToNat, true_and, and_true, Int.reduceNeg, Int.toNat_natCast]
  let I : Nat → Env' → Prop := fun k env => k ≤ many → ∃ (fr fd : List Int) (z : Sl), env = [.val (.int seed), .val (.int size), .val (.int many), .own (fr.map .int), .own (fd.map .int), z] ∧ fd.length = k ∧ fr.length = size - k ∧ (fd ++ fr).Nodup ∧ ∀ x ∈ fd ++ fr, 0 ≤ x ∧ x < size
  have key := loopF_all (as := asN 5) (body := mAppM 4 (mPopAt 3 (mCallF f__law_pick (mCons (mCallF f__law_seed (mCons (mVar 0) (mCons (mVar 5) mNil))) (mCons (mQ qLen (mOwn 3)) mNil))))) (h := h) (fun i : Nat => D.int (0 + i)) I
    (List.range many) 0 [.val (.int seed), .val (.int size), .val (.int many), .own (rangeD 0 size), .own [], .none] (by
      intro _
      refine ⟨(List.range size).map fun (i : Nat) => (i : Int), [], .none, ?_, rfl, ?_, ?_, ?_⟩
      · unfold rangeD
        simp
      · simp
      · rw [List.nil_append]
        exact nodup_cast _ List.nodup_range
      · intro x hx
        simp at hx
        obtain ⟨i, hi, rfl⟩ := hx
        omega) (by
      intro j x env hj J
      obtain ⟨hjm, rfl⟩ := List.getElem?_eq_some_iff.mp hj
      simp at hjm
      rw [List.getElem_range]
      obtain ⟨fr, fd, z, rfl, l1, l2, nd, rg⟩ := J (by omega)
      refine ⟨_, rfl, ?_⟩
      have hl : 0 < fr.length := by omega
      simp only [a_mVar, a_mC, a_mUn, a_mBin, a_mIf, a_mAnd, a_mOr, a_mNot, a_mNil, a_mCons, a_mCallF, a_mFn, a_mTst, a_mVal, a_mChain, a_mCmp, a_mSq, a_mOwn, a_mQ, a_mQ2, a_m2Q, a_mLst, a_mDisp, a_mTup, a_mRepL, a_mSeq, a_mSkip, a_mDrop, a_mRet, a_mRetN, a_mIfS, a_mSet, a_mSetL, a_mRaise, a_mNever, a_mFor, a_mLc, a_mIt, a_mFnL, a_mEnum, a_mSlc, a_mLRng, a_mLOf, a_oNone, a_oSome, a_asN, a_asT, a_mFrz, a_mApp, a_mExt, a_mPopAt, a_mPop, a_mSetM, a_mSetT, a_mSetTM, a_mAppM, a_ownAt, a_bnd, a_bnd_exc, a_bndS, a_bndS_exc, a_bndM, a_lift, a_asL_nil, a_asL_cons, a_gSub, a_gNeg, a_gAdd, a_gAddT, a_gAddL, a_gMod, a_gFdiv, a_gPow, a_gLt, a_gLe, a_gGt, a_gGe, a_truth_bl, a_truth_int, a_truth_lst, a_truth_tup, a_truth_non, a_blD, a_sq_tup, a_sq_lst, a_sq_scr, a_it_tup, a_it_lst, a_it_scr, a_qLen, a_qAt, a_qTuple, a_qSum, a_rng1, a_gLRng, a_fMin2, a_fMax2, a_fMin3, a_fAbs, a_fIntB, a_fIntI, a_isi_non, a_isi_bl, a_isi_int, a_isi_str, a_isi_tup, a_isi_lst, a_isN, a_notN, a_ofT, a_ofL, a_qTruth, a_mZip, a_qSumB, a_mPar, a_mAugI, a_mWhile, a_mPut, a_mParL, a_mPar3, a_gRevT, a_gRevL, a_mZip3, a_mIns, a_gTRng, a_mRetO, a_mRetL, a_mCallL, a_mTry, a_mAugS, a_mCount, a_gCount, a_wipe_nil, a_wipe_cons, a_callM, a_callN, List.map_cons, List.map_nil, List.length_cons, List.length_nil, List.cons_append, List.nil_append, Nat.reduceAdd, Nat.reduceSub, Nat.zero_add, List.replicate_succ, List.replicate_zero, List.getElem?_cons_zero, List.getElem?_cons_succ, List.set_cons_zero, List.set_cons_succ, List.append_nil, if_true, if_false, Bool.true_eq_false, Bool.false_eq_true, decide_true, decide_false, Bool.not_true, Bool.not_false, Nat.reduceLeDiff, Nat.reduceLT, Int.reduceLT, Int.reduceLE, Option.map_some, Option.map_none, Int.reduceToNat, true_and, and_true, Int.reduceNeg, e_seed, List.length_map]
      rw [e_pick _ _ (by omega)]
      have p1 := Int.emod_nonneg (seedF seed (0 + (j : Int)) / 97) (b := (fr.length : Int)) (by omega)
      have p2 := Int.emod_lt_of_pos (seedF seed (0 + (j : Int)) / 97) (b := (fr.length : Int)) (by omega)
      obtain ⟨l, el⟩ := Int.eq_ofNat_of_zero_le p1
      rw [el] at p2 ⊢
      simp only [a_mVar, a_mC, a_mUn, a_mBin, a_mIf, a_mAnd, a_mOr, a_mNot, a_mNil, a_mCons, a_mCallF, a_mFn, a_mTst, a_mVal, a_mChain, a_mCmp, a_mSq, a_mOwn, a_mQ, a_mQ2, a_m2Q, a_mLst, a_mDisp, a_mTup, a_mRepL, a_mSeq, a_mSkip, a_mDrop, a_mRet, a_mRetN, a_mIfS, a_mSet, a_mSetL, a_mRaise, a_mNever, a_mFor, a_mLc, a_mIt, a_mFnL, a_mEnum, a_mSlc, a_mLRng, a_mLOf, a_oNone, a_oSome, a_asN, a_asT, a_mFrz, a_mApp, a_mExt, a_mPopAt, a_mPop, a_mSetM, a_mSetT, a_mSetTM, a_mAppM, a_ownAt, a_bnd, a_bnd_exc, a_bndS, a_bndS_exc, a_bndM, a_lift, a_asL_nil, a_asL_cons, a_gSub, a_gNeg, a_gAdd, a_gAddT, a_gAddL, a_gMod, a_gFdiv, a_gPow, a_gLt, a_gLe, a_gGt, a_gGe, a_truth_bl, a_truth_int, a_truth_lst, a_truth_tup, a_truth_non, a_blD, a_sq_tup, a_sq_lst, a_sq_scr, a_it_tup, a_it_lst, a_it_scr, a_qLen, a_qAt, a_qTuple, a_qSum, a_rng1, a_gLRng, a_fMin2, a_fMax2, a_fMin3, a_fAbs, a_fIntB, a_fIntI, a_isi_non, a_isi_bl, a_isi_int, a_isi_str, a_isi_tup, a_isi_lst, a_isN, a_notN, a_ofT, a_ofL, a_qTruth, a_mZip, a_qSumB, a_mPar, a_mAugI, a_mWhile, a_mPut, a_mParL, a_mPar3, a_gRevT, a_gRevL, a_mZip3, a_mIns, a_gTRng, a_mRetO, a_mRetL, a_mCallL, a_mTry, a_mAugS, a_mCount, a_gCount, a_wipe_nil, a_wipe_cons, a_callM, a_callN, List.map_cons, List.map_nil, List.length_cons, List.length_nil, List.cons_append, List.nil_append, Nat.reduceAdd, Nat.reduceSub, Nat.zero_add, List.replicate_succ, List.replicate_zero, List.getElem?_cons_zero, List.getElem?_cons_succ, List.set_cons_zero, List.set_cons_succ, List.append_nil, if_true, if_false, Bool.true_eq_false, Bool.false_eq_true, decide_true, decide_false, Bool.not_true, Bool.not_false, Nat.reduceLeDiff, Nat.reduceLT, Int.reduceLT, Int.reduceLE, Option.map_some, Option.map_none, Int.reduceToNat, true_and, and_true, Int.reduceNeg]
      rw [if_pos (by omega), show seqIndex? (l : Int) fr.length = some l by
        unfold seqIndex?
        simp
        omega]
      have ll : l < fr.length := by omega
      simp only [a_mVar, a_mC, a_mUn, a_mBin, a_mIf, a_mAnd, a_mOr, a_mNot, a_mNil, a_mCons, a_mCallF, a_mFn, a_mTst, a_mVal, a_mChain, a_mCmp, a_mSq, a_mOwn, a_mQ, a_mQ2, a_m2Q, a_mLst, a_mDisp, a_mTup, a_mRepL, a_mSeq, a_mSkip, a_mDrop, a_mRet, a_mRetN, a_mIfS, a_mSet, a_mSetL, a_mRaise, a_mNever, a_mFor, a_mLc, a_mIt, a_mFnL, a_mEnum, a_mSlc, a_mLRng, a_mLOf, a_oNone, a_oSome, a_asN, a_asT, a_mFrz, a_mApp, a_mExt, a_mPopAt, a_mPop, a_mSetM, a_mSetT, a_mSetTM, a_mAppM, a_ownAt, a_bnd, a_bnd_exc, a_bndS, a_bndS_exc, a_bndM, a_lift, a_asL_nil, a_asL_cons, a_gSub, a_gNeg, a_gAdd, a_gAddT, a_gAddL, a_gMod, a_gFdiv, a_gPow, a_gLt, a_gLe, a_gGt, a_gGe, a_truth_bl, a_truth_int, a_truth_lst, a_truth_tup, a_truth_non, a_blD, a_sq_tup, a_sq_lst, a_sq_scr, a_it_tup, a_it_lst, a_it_scr, a_qLen, a_qAt, a_qTuple, a_qSum, a_rng1, a_gLRng, a_fMin2, a_fMax2, a_fMin3, a_fAbs, a_fIntB, a_fIntI, a_isi_non, a_isi_bl, a_isi_int, a_isi_str, a_isi_tup, a_isi_lst, a_isN, a_notN, a_ofT, a_ofL, a_qTruth, a_mZip, a_qSumB, a_mPar, a_mAugI, a_mWhile, a_mPut, a_mParL, a_mPar3, a_gRevT, a_gRevL, a_mZip3, a_mIns, a_gTRng, a_mRetO, a_mRetL, a_mCallL, a_mTry, a_mAugS, a_mCount, a_gCount, a_wipe_nil, a_wipe_cons, a_callM, a_callN, List.map_cons, List.map_nil, List.length_cons, List.length_nil, List.cons_append, List.nil_append, Nat.reduceAdd, Nat.reduceSub, Nat.zero_add, List.replicate_succ, List.replicate_zero, List.getElem?_cons_zero, List.getElem?_cons_succ, List.set_cons_zero, List.set_cons_succ, List.append_nil, if_true, if_false, Bool.true_eq_false, Bool.false_eq_true, decide_true, decide_false, Bool.not_true, Bool.not_false, Nat.reduceLeDiff, Nat.reduceLT, Int.reduceLT, Int.reduceLE, Option.map_some, Option.map_none, Int.reduceToNat, true_and, and_true, Int.reduceNeg, List.getElem?_map, List.getElem?_eq_getElem ll, List.length_map]
      rw [if_pos (by unfold sizeLine; omega)]
      have pm : ((fd ++ [fr[l]]) ++ fr.eraseIdx l).Perm (fd ++ fr) := by
        rw [List.append_assoc]
        exact List.Perm.append_left _ (pick_perm fr l ll)
      refine ⟨_, rfl, fun hk => ⟨fr.eraseIdx l, fd ++ [fr[l]], _, by rw [erase_map, List.map_append]; rfl, ?_, ?_, ?_, ?_⟩⟩
      · simp [l1]
      · rw [List.length_eraseIdx_of_lt ll]
        omega
      · exact (pm.nodup_iff).mpr nd
      · exact fun x hx => rg x (pm.mem_iff.mp hx))
  obtain ⟨env', e, J⟩ := key
  simp only [Nat.zero_add, List.length_range] at J
  obtain ⟨fr, fd, z, rfl, l1, l2, nd, rg⟩ := J (Nat.le_refl _)
  rw [show rangeD 0 many = (List.range many).map (fun i : Nat => D.int (0 + i)) from rfl, e]
  simp only [a_mVar, a_mC, a_mUn, a_mBin, a_mIf, a_mAnd, a_mOr, a_mNot, a_mNil, a_mCons, a_mCallF, a_mFn, a_mTst, a_mVal, a_mChain, a_mCmp, a_mSq, a_mOwn, a_mQ, a_mQ2, a_m2Q, a_mLst, a_mDisp, a_mTup, a_mRepL, a_mSeq, a_mSkip, a_mDrop, a_mRet, a_mRetN, a_mIfS, a_mSet, a_mSetL, a_mRaise, a_mNever, a_mFor, a_mLc, a_mIt, a_mFnL, a_mEnum, a_mSlc, a_mLRng, a_mLOf, a_oNone, a_oSome, a_asN, a_asT, a_mFrz, a_mApp, a_mExt, a_mPopAt, a_mPop, a_mSetM, a_mSetT, a_mSetTM, a_mAppM, a_ownAt, a_bnd, a_bnd_exc, a_bndS, a_bndS_exc, a_bndM, a_lift, a_asL_nil, a_asL_cons, a_gSub, a_gNeg, a_gAdd, a_gAddT, a_gAddL, a_gMod, a_gFdiv, a_gPow, a_gLt, a_gLe, a_gGt, a_gGe, a_truth_bl, a_truth_int, a_truth_lst, a_truth_tup, a_truth_non, a_blD, a_sq_tup, a_sq_lst, a_sq_scr, a_it_tup, a_it_lst, a_it_scr, a_qLen, a_qAt, a_qTuple, a_qSum, a_rng1, a_gLRng, a_fMin2, a_fMax2, a_fMin3, a_fAbs, a_fIntB, a_fIntI, a_isi_non, a_isi_bl, a_isi_int, a_isi_str, a_isi_tup, a_isi_lst, a_isN, a_notN, a_ofT, a_ofL, a_qTruth, a_mZip, a_qSumB, a_mPar, a_mAugI, a_mWhile, a_mPut, a_mParL, a_mPar3, a_gRevT, a_gRevL, a_mZip3, a_mIns, a_gTRng, a_mRetO, a_mRetL, a_mCallL, a_mTry, a_mAugS, a_mCount, a_gCount, a_wipe_nil, a_wipe_cons, a_callM, a_callN, List.map_cons, List.map_nil, List.length_cons, List.length_nil, List.cons_append, List.nil_append, Nat.reduceAdd, Nat.reduceSub, Nat.zero_add, List.replicate_succ, List.replicate_zero, List.getElem?_cons_zero, List.getElem?_cons_succ, List.set_cons_zero, List.set_cons_succ, List.append_nil, if_true, if_false, Bool.true_eq_false, Bool.false_eq_true, decide_true, decide_false, Bool.not_true, Bool.not_false, Nat.reduceLeDiff, Nat.reduceLT, Int.reduceLT, Int.reduceLE, Option.map_some, Option.map_none, Int.reduceToNat, true_and, and_true, Int.reduceNeg]
  exact ⟨fd, ⟨l1, (List.nodup_append.mp nd).1, fun x hx => rg x (List.mem_append_left _ hx)⟩, rfl⟩

theorem e_sizes (ns : List Int) (k : Nat) (h : AH) : ∃ size many : Nat, 2 ≤ size ∧ size ≤ 7 ∧ 1 ≤ many ∧ many ≤ size ∧ many ≤ 6 ∧ f__law_sizes [.scr ns, .int k] h = .ok (.tup [.int size, .int many]) h := by
  have c1 := e_cell ns k h
  have c2 := e_cell ns (k + 1) h
  rw [show ((k + 1 : Nat) : Int) = (k : Int) + 1 by omega] at c2
  generalize cell ns k = x at c1
  generalize cell ns (k + 1) = y at c2
  have p1 := Int.emod_nonneg x (b := 8) (by omega)
  have p2 := Int.emod_lt_of_pos x (b := 8) (by omega)
  unfold f__law_sizes m__law_sizes
  simp only [a_mVar, a_mC, a_mUn, a_mBin, a_mIf, a_mAnd, a_mOr, a_mNot, a_mNil, a_mCons, a_mCallF, a_mFn, a_mTst, a_mVal, a_mChain, a_mCmp, a_mSq, a_mOwn, a_mQ, a_mQ2, a_m2Q, a_mLst, a_mDisp, a_mTup, a_mRepL, a_mSeq, a_mSkip, a_mDrop, a_mRet, a_mRetN, a_mIfS, a_mSet, a_mSetL, a_mRaise, a_mNever, a_mFor, a_mLc, a_mIt, a_mFnL, a_mEnum, a_mSlc, a_mLRng, a_mLOf, a_oNone, a_oSome, a_asN, a_asT, a_mFrz, a_mApp, a_mExt, a_mPopAt, a_mPop, a_mSetM, a_mSetT, a_mSetTM, a_mAppM, a_ownAt, a_bnd, a_bnd_exc, a_bndS, a_bndS_exc, a_bndM, a_lift, a_asL_nil, a_asL_cons, a_gSub, a_gNeg, a_gAdd, a_gAddT, a_gAddL, a_gMod, a_gFdiv, a_gPow, a_gLt, a_gLe, a_gGt, a_gGe, a_truth_bl, a_truth_int, a_truth_lst, a_truth_tup, a_truth_non, a_blD, a_sq_tup, a_sq_lst, a_sq_scr, a_it_tup, a_it_lst, a_it_scr, a_qLen, a_qAt, a_qTuple, a_qSum, a_rng1, a_gLRng, a_fMin2, a_fMax2, a_fMin3, a_fAbs, a_fIntB, a_fIntI, a_isi_non, a_isi_bl, a_isi_int, a_isi_str, a_isi_tup, a_isi_lst, a_isN, a_notN, a_ofT, a_ofL, a_qTruth, a_mZip, a_qSumB, a_mPar, a_mAugI, a_mWhile, a_mPut, a_mParL, a_mPar3, a_gRevT, a_gRevL, a_mZip3, a_mIns, a_gTRng, a_mRetO, a_mRetL, a_mCallL, a_mTry, a_mAugS, a_mCount, a_gCount, a_wipe_nil, a_wipe_cons, a_callM, a_callN, List.map_cons, List.map_nil, List.length_cons, List.length_nil, List.cons_append, List.nil_append, Nat.reduceAdd, Nat.reduceSub, Nat.zero_add, List.replicate_succ, List.replicate_zero, List.getElem?_cons_zero, List.getElem?_cons_succ, List.set_cons_zero, List.set_cons_succ, List.append_nil, if_true, if_false, Bool.true_eq_false, Bool.false_eq_true, decide_true, decide_false, Bool.not_true, Bool.not_false, Nat.reduceLeDiff, Nat.reduceLT, Int.reduceLT, Int.reduceLE, Option.map_some, Option.map_none, Int.reduceToNat, true_and, and_true, Int.reduceNeg, c1, c2, Int.reduceLT]
  generalize x % 8 = z at p1 p2
  have fin : ∀ (sz m : Int), (2 ≤ sz ∧ sz ≤ 7) → (1 ≤ m ∧ m ≤ sz ∧ m ≤ 6) → ∃ size many : Nat, 2 ≤ size ∧ size ≤ 7 ∧ 1 ≤ many ∧ many ≤ size ∧ many ≤ 6 ∧ (Res.ok (D.tup [.int sz, .int (1 + y % m)]) h : Res D) = .ok (.tup [.int size, .int many]) h := by
    intro sz m h1 h2
    have q1 := Int.emod_nonneg y (b := m) (by omega)
    have q2 := Int.emod_lt_of_pos y (b := m) (by omega)
    refine ⟨sz.toNat, (1 + y % m).toNat, by omega, by omega, by omega, by omega, by omega, ?_⟩
    rw [Int.toNat_of_nonneg (by omega), Int.toNat_of_nonneg (by omega)]
  have hz : z = 0 ∨ z = 1 ∨ z = 2 ∨ z = 3 ∨ z = 4 ∨ z = 5 ∨ z = 6 ∨ z = 7 := by omega
  rcases hz with rfl | rfl | rfl | rfl | rfl | rfl | rfl | rfl
  · simpa [a_mVar, a_mC, a_mUn, a_mBin, a_mIf, a_mAnd, a_mOr, a_mNot, a_mNil, a_mCons, a_mCallF, a_mFn, a_mTst, a_mVal, a_mChain, a_mCmp, a_mSq, a_mOwn, a_mQ, a_mQ2, a_m2Q, a_mLst, a_mDisp, a_mTup, a_mRepL, a_mSeq, a_mSkip, a_mDrop, a_mRet, a_mRetN, a_mIfS, a_mSet, a_mSetL, a_mRaise, a_mNever, a_mFor, a_mLc, a_mIt, a_mFnL, a_mEnum, a_mSlc, a_mLRng, a_mLOf, a_oNone, a_oSome, a_asN, a_asT, a_mFrz, a_mApp, a_mExt, a_mPopAt, a_mPop, a_mSetM, a_mSetT, a_mSetTM, a_mAppM, a_ownAt, a_bnd, a_bnd_exc, a_bndS, a_bndS_exc, a_bndM, a_lift, a_asL_nil, a_asL_cons, a_gSub, a_gNeg, a_gAdd, a_gAddT, a_gAddL, a_gMod, a_gFdiv, a_gPow, a_gLt, a_gLe, a_gGt, a_gGe, a_truth_bl, a_truth_int, a_truth_lst, a_truth_tup, a_truth_non, a_blD, a_sq_tup, a_sq_lst, a_sq_scr, a_it_tup, a_it_lst, a_it_scr, a_qLen, a_qAt, a_qTuple, a_qSum, a_rng1, a_gLRng, a_fMin2, a_fMax2, a_fMin3, a_fAbs, a_fIntB, a_fIntI, a_isi_non, a_isi_bl, a_isi_int, a_isi_str, a_isi_tup, a_isi_lst, a_isN, a_notN, a_ofT, a_ofL, a_qTruth, a_mZip, a_qSumB, a_mPar, a_mAugI, a_mWhile, a_mPut, a_mParL, a_mPar3, a_gRevT, a_gRevL, a_mZip3, a_mIns, a_gTRng, a_mRetO, a_mRetL, a_mCallL, a_mTry, a_mAugS, a_mCount, a_gCount, a_wipe_nil, a_wipe_cons, a_callM, a_callN, List.map_cons, List.map_nil, List.length_cons, List.length_nil, List.cons_append, List.nil_append, Nat.reduceAdd, Nat.reduceSub, Nat.zero_add, List.replicate_succ, List.replicate_zero, List.getElem?_cons_zero, List.getElem?_cons_succ, List.set_cons_zero, List.set_cons_succ, List.append_nil, if_true, if_false, Bool.true_eq_false, Bool.false_eq_true, decide_true, decide_false, Bool.not_true, Bool.not_false, Nat.reduceLeDiff, Nat.reduceLT, Int.reduceLT, Int.reduceLE, Option.map_some, Option.map_none, Int.reduceToNat, true_and, and_true, Int.reduceNeg, atI, ixN, c2] using fin 2 2 (by omega) (by omega)
  · simpa [a_mVar, a_mC, a_mUn, a_mBin, a_mIf, a_mAnd, a_mOr, a_mNot, a_mNil, a_mCons, a_mCallF, a_mFn, a_mTst, a_mVal, a_mChain, a_mCmp, a_mSq, a_mOwn, a_mQ, a_mQ2, a_m2Q, a_mLst, a_mDisp, a_mTup, a_mRepL, a_mSeq, a_mSkip, a_mDrop, a_mRet, a_mRetN, a_mIfS, a_mSet, a_mSetL, a_mRaise, a_mNever, a_mFor, a_mLc, a_mIt, a_mFnL, a_mEnum, a_mSlc, a_mLRng, a_mLOf, a_oNone, a_oSome, a_asN, a_asT, a_mFrz, a_mApp, a_mExt, a_mPopAt, a_mPop, a_mSetM, a_mSetT, a_mSetTM, a_mAppM, a_ownAt, a_bnd, a_bnd_exc, a_bndS, a_bndS_exc, a_bndM, a_lift, a_asL_nil, a_asL_cons, a_gSub, a_gNeg, a_gAdd, a_gAddT, a_gAddL, a_gMod, a_gFdiv, a_gPow, a_gLt, a_gLe, a_gGt, a_gGe, a_truth_bl, a_truth_int, a_truth_lst, a_truth_tup, a_truth_non, a_blD, a_sq_tup, a_sq_lst, a_sq_scr, a_it_tup, a_it_lst, a_it_scr, a_qLen, a_qAt, a_qTuple, a_qSum, a_rng1, a_gLRng, a_fMin2, a_fMax2, a_fMin3, a_fAbs, a_fIntB, a_fIntI, a_isi_non, a_isi_bl, a_isi_int, a_isi_str, a_isi_tup, a_isi_lst, a_isN, a_notN, a_ofT, a_ofL, a_qTruth, a_mZip, a_qSumB, a_mPar, a_mAugI, a_mWhile, a_mPut, a_mParL, a_mPar3, a_gRevT, a_gRevL, a_mZip3, a_mIns, a_gTRng, a_mRetO, a_mRetL, a_mCallL, a_mTry, a_mAugS, a_mCount, a_gCount, a_wipe_nil, a_wipe_cons, a_callM, a_callN, List.map_cons, List.map_nil, List.length_cons, List.length_nil, List.cons_append, List.nil_append, Nat.reduceAdd, Nat.reduceSub, Nat.zero_add, List.replicate_succ, List.replicate_zero, List.getElem?_cons_zero, List.getElem?_cons_succ, List.set_cons_zero, List.set_cons_succ, List.append_nil, if_true, if_false, Bool.true_eq_false, Bool.false_eq_true, decide_true, decide_false, Bool.not_true, Bool.not_false, Nat.reduceLeDiff, Nat.reduceLT, Int.reduceLT, Int.reduceLE, Option.map_some, Option.map_none, Int.reduceToNat, true_and, and_true, Int.reduceNeg, atI, ixN, c2] using fin 3 3 (by omega) (by omega)
  · simpa [a_mVar, a_mC, a_mUn, a_mBin, a_mIf, a_mAnd, a_mOr, a_mNot, a_mNil, a_mCons, a_mCallF, a_mFn, a_mTst, a_mVal, a_mChain, a_mCmp, a_mSq, a_mOwn, a_mQ, a_mQ2, a_m2Q, a_mLst, a_mDisp, a_mTup, a_mRepL, a_mSeq, a_mSkip, a_mDrop, a_mRet, a_mRetN, a_mIfS, a_mSet, a_mSetL, a_mRaise, a_mNever, a_mFor, a_mLc, a_mIt, a_mFnL, a_mEnum, a_mSlc, a_mLRng, a_mLOf, a_oNone, a_oSome, a_asN, a_asT, a_mFrz, a_mApp, a_mExt, a_mPopAt, a_mPop, a_mSetM, a_mSetT, a_mSetTM, a_mAppM, a_ownAt, a_bnd, a_bnd_exc, a_bndS, a_bndS_exc, a_bndM, a_lift, a_asL_nil, a_asL_cons, a_gSub, a_gNeg, a_gAdd, a_gAddT, a_gAddL, a_gMod, a_gFdiv, a_gPow, a_gLt, a_gLe, a_gGt, a_gGe, a_truth_bl, a_truth_int, a_truth_lst, a_truth_tup, a_truth_non, a_blD, a_sq_tup, a_sq_lst, a_sq_scr, a_it_tup, a_it_lst, a_it_scr, a_qLen, a_qAt, a_qTuple, a_qSum, a_rng1, a_gLRng, a_fMin2, a_fMax2, a_fMin3, a_fAbs, a_fIntB, a_fIntI, a_isi_non, a_isi_bl, a_isi_int, a_isi_str, a_isi_tup, a_isi_lst, a_isN, a_notN, a_ofT, a_ofL, a_qTruth, a_mZip, a_qSumB, a_mPar, a_mAugI, a_mWhile, a_mPut, a_mParL, a_mPar3, a_gRevT, a_gRevL, a_mZip3, a_mIns, a_gTRng, a_mRetO, a_mRetL, a_mCallL, a_mTry, a_mAugS, a_mCount, a_gCount, a_wipe_nil, a_wipe_cons, a_callM, a_callN, List.map_cons, List.map_nil, List.length_cons, List.length_nil, List.cons_append, List.nil_append, Nat.reduceAdd, Nat.reduceSub, Nat.zero_add, List.replicate_succ, List.replicate_zero, List.getElem?_cons_zero, List.getElem?_cons_succ, List.set_cons_zero, List.set_cons_succ, List.append_nil, if_true, if_false, Bool.true_eq_false, Bool.false_eq_true, decide_true, decide_false, Bool.not_true, Bool.not_false, Nat.reduceLeDiff, Nat.reduceLT, Int.reduceLT, Int.reduceLE, Option.map_some, Option.map_none, Int.reduceToNat, true_and, and_true, Int.reduceNeg, atI, ixN, c2] using fin 4 4 (by omega) (by omega)
  · simpa [a_mVar, a_mC, a_mUn, a_mBin, a_mIf, a_mAnd, a_mOr, a_mNot, a_mNil, a_mCons, a_mCallF, a_mFn, a_mTst, a_mVal, a_mChain, a_mCmp, a_mSq, a_mOwn, a_mQ, a_mQ2, a_m2Q, a_mLst, a_mDisp, a_mTup, a_mRepL, a_mSeq, a_mSkip, a_mDrop, a_mRet, a_mRetN, a_mIfS, a_mSet, a_mSetL, a_mRaise, a_mNever, a_mFor, a_mLc, a_mIt, a_mFnL, a_mEnum, a_mSlc, a_mLRng, a_mLOf, a_oNone, a_oSome, a_asN, a_asT, a_mFrz, a_mApp, a_mExt, a_mPopAt, a_mPop, a_mSetM, a_mSetT, a_mSetTM, a_mAppM, a_ownAt, a_bnd, a_bnd_exc, a_bndS, a_bndS_exc, a_bndM, a_lift, a_asL_nil, a_asL_cons, a_gSub, a_gNeg, a_gAdd, a_gAddT, a_gAddL, a_gMod, a_gFdiv, a_gPow, a_gLt, a_gLe, a_gGt, a_gGe, a_truth_bl, a_truth_int, a_truth_lst, a_truth_tup, a_truth_non, a_blD, a_sq_tup, a_sq_lst, a_sq_scr, a_it_tup, a_it_lst, a_it_scr, a_qLen, a_qAt, a_qTuple, a_qSum, a_rng1, a_gLRng, a_fMin2, a_fMax2, a_fMin3, a_fAbs, a_fIntB, a_fIntI, a_isi_non, a_isi_bl, a_isi_int, a_isi_str, a_isi_tup, a_isi_lst, a_isN, a_notN, a_ofT, a_ofL, a_qTruth, a_mZip, a_qSumB, a_mPar, a_mAugI, a_mWhile, a_mPut, a_mParL, a_mPar3, a_gRevT, a_gRevL, a_mZip3, a_mIns, a_gTRng, a_mRetO, a_mRetL, a_mCallL, a_mTry, a_mAugS, a_mCount, a_gCount, a_wipe_nil, a_wipe_cons, a_callM, a_callN, List.map_cons, List.map_nil, List.length_cons, List.length_nil, List.cons_append, List.nil_append, Nat.reduceAdd, Nat.reduceSub, Nat.zero_add, List.replicate_succ, List.replicate_zero, List.getElem?_cons_zero, List.getElem?_cons_succ, List.set_cons_zero, List.set_cons_succ, List.append_nil, if_true, if_false, Bool.true_eq_false, Bool.false_eq_true, decide_true, decide_false, Bool.not_true, Bool.not_false, Nat.reduceLeDiff, Nat.reduceLT, Int.reduceLT, Int.reduceLE, Option.map_some, Option.map_none, Int.reduceToNat, true_and, and_true, Int.reduceNeg, atI, ixN, c2] using fin 5 5 (by omega) (by omega)
  · simpa [a_mVar, a_mC, a_mUn, a_mBin, a_mIf, a_mAnd, a_mOr, a_mNot, a_mNil, a_mCons, a_mCallF, a_mFn, a_mTst, a_mVal, a_mChain, a_mCmp, a_mSq, a_mOwn, a_mQ, a_mQ2, a_m2Q, a_mLst, a_mDisp, a_mTup, a_mRepL, a_mSeq, a_mSkip, a_mDrop, a_mRet, a_mRetN, a_mIfS, a_mSet, a_mSetL, a_mRaise, a_mNever, a_mFor, a_mLc, a_mIt, a_mFnL, a_mEnum, a_mSlc, a_mLRng, a_mLOf, a_oNone, a_oSome, a_asN, a_asT, a_mFrz, a_mApp, a_mExt, a_mPopAt, a_mPop, a_mSetM, a_mSetT, a_mSetTM, a_mAppM, a_ownAt, a_bnd, a_bnd_exc, a_bndS, a_bndS_exc, a_bndM, a_lift, a_asL_nil, a_asL_cons, a_gSub, a_gNeg, a_gAdd, a_gAddT, a_gAddL, a_gMod, a_gFdiv, a_gPow, a_gLt, a_gLe, a_gGt, a_gGe, a_truth_bl, a_truth_int, a_truth_lst, a_truth_tup, a_truth_non, a_blD, a_sq_tup, a_sq_lst, a_sq_scr, a_it_tup, a_it_lst, a_it_scr, a_qLen, a_qAt, a_qTuple, a_qSum, a_rng1, a_gLRng, a_fMin2, a_fMax2, a_fMin3, a_fAbs, a_fIntB, a_fIntI, a_isi_non, a_isi_bl, a_isi_int, a_isi_str, a_isi_tup, a_isi_lst, a_isN, a_notN, a_ofT, a_ofL, a_qTruth, a_mZip, a_qSumB, a_mPar, a_mAugI, a_mWhile, a_mPut, a_mParL, a_mPar3, a_gRevT, a_gRevL, a_mZip3, a_mIns, a_gTRng, a_mRetO, a_mRetL, a_mCallL, a_mTry, a_mAugS, a_mCount, a_gCount, a_wipe_nil, a_wipe_cons, a_callM, a_callN, List.map_cons, List.map_nil, List.length_cons, List.length_nil, List.cons_append, List.nil_append, Nat.reduceAdd, Nat.reduceSub, Nat.zero_add, List.replicate_succ, List.replicate_zero, List.getElem?_cons_zero, List.getElem?_cons_succ, List.set_cons_zero, List.set_cons_succ, List.append_nil, if_true, if_false, Bool.true_eq_false, Bool.false_eq_true, decide_true, decide_false, Bool.not_true, Bool.not_false, Nat.reduceLeDiff, Nat.reduceLT, Int.reduceLT, Int.reduceLE, Option.map_some, Option.map_none, Int.reduceToNat, true_and, and_true, Int.reduceNeg, atI, ixN, c2] using fin 4 4 (by omega) (by omega)
  · simpa [a_mVar, a_mC, a_mUn, a_mBin, a_mIf, a_mAnd, a_mOr, a_mNot, a_mNil, a_mCons, a_mCallF, a_mFn, a_mTst, a_mVal, a_mChain, a_mCmp, a_mSq, a_mOwn, a_mQ, a_mQ2, a_m2Q, a_mLst, a_mDisp, a_mTup, a_mRepL, a_mSeq, a_mSkip, a_mDrop, a_mRet, a_mRetN, a_mIfS, a_mSet, a_mSetL, a_mRaise, a_mNever, a_mFor, a_mLc, a_mIt, a_mFnL, a_mEnum, a_mSlc, a_mLRng, a_mLOf, a_oNone, a_oSome, a_asN, a_asT, a_mFrz, a_mApp, a_mExt, a_mPopAt, a_mPop, a_mSetM, a_mSetT, a_mSetTM, a_mAppM, a_ownAt, a_bnd, a_bnd_exc, a_bndS, a_bndS_exc, a_bndM, a_lift, a_asL_nil, a_asL_cons, a_gSub, a_gNeg, a_gAdd, a_gAddT, a_gAddL, a_gMod, a_gFdiv, a_gPow, a_gLt, a_gLe, a_gGt, a_gGe, a_truth_bl, a_truth_int, a_truth_lst, a_truth_tup, a_truth_non, a_blD, a_sq_tup, a_sq_lst, a_sq_scr, a_it_tup, a_it_lst, a_it_scr, a_qLen, a_qAt, a_qTuple, a_qSum, a_rng1, a_gLRng, a_fMin2, a_fMax2, a_fMin3, a_fAbs, a_fIntB, a_fIntI, a_isi_non, a_isi_bl, a_isi_int, a_isi_str, a_isi_tup, a_isi_lst, a_isN, a_notN, a_ofT, a_ofL, a_qTruth, a_mZip, a_qSumB, a_mPar, a_mAugI, a_mWhile, a_mPut, a_mParL, a_mPar3, a_gRevT, a_gRevL, a_mZip3, a_mIns, a_gTRng, a_mRetO, a_mRetL, a_mCallL, a_mTry, a_mAugS, a_mCount, a_gCount, a_wipe_nil, a_wipe_cons, a_callM, a_callN, List.map_cons, List.map_nil, List.length_cons, List.length_nil, List.cons_append, List.nil_append, Nat.reduceAdd, Nat.reduceSub, Nat.zero_add, List.replicate_succ, List.replicate_zero, List.getElem?_cons_zero, List.getElem?_cons_succ, List.set_cons_zero, List.set_cons_succ, List.append_nil, if_true, if_false, Bool.true_eq_false, Bool.false_eq_true, decide_true, decide_false, Bool.not_true, Bool.not_false, Nat.reduceLeDiff, Nat.reduceLT, Int.reduceLT, Int.reduceLE, Option.map_some, Option.map_none, Int.reduceToNat, true_and, and_true, Int.reduceNeg, atI, ixN, c2] using fin 5 5 (by omega) (by omega)
  · simpa [a_mVar, a_mC, a_mUn, a_mBin, a_mIf, a_mAnd, a_mOr, a_mNot, a_mNil, a_mCons, a_mCallF, a_mFn, a_mTst, a_mVal, a_mChain, a_mCmp, a_mSq, a_mOwn, a_mQ, a_mQ2, a_m2Q, a_mLst, a_mDisp, a_mTup, a_mRepL, a_mSeq, a_mSkip, a_mDrop, a_mRet, a_mRetN, a_mIfS, a_mSet, a_mSetL, a_mRaise, a_mNever, a_mFor, a_mLc, a_mIt, a_mFnL, a_mEnum, a_mSlc, a_mLRng, a_mLOf, a_oNone, a_oSome, a_asN, a_asT, a_mFrz, a_mApp, a_mExt, a_mPopAt, a_mPop, a_mSetM, a_mSetT, a_mSetTM, a_mAppM, a_ownAt, a_bnd, a_bnd_exc, a_bndS, a_bndS_exc, a_bndM, a_lift, a_asL_nil, a_asL_cons, a_gSub, a_gNeg, a_gAdd, a_gAddT, a_gAddL, a_gMod, a_gFdiv, a_gPow, a_gLt, a_gLe, a_gGt, a_gGe, a_truth_bl, a_truth_int, a_truth_lst, a_truth_tup, a_truth_non, a_blD, a_sq_tup, a_sq_lst, a_sq_scr, a_it_tup, a_it_lst, a_it_scr, a_qLen, a_qAt, a_qTuple, a_qSum, a_rng1, a_gLRng, a_fMin2, a_fMax2, a_fMin3, a_fAbs, a_fIntB, a_fIntI, a_isi_non, a_isi_bl, a_isi_int, a_isi_str, a_isi_tup, a_isi_lst, a_isN, a_notN, a_ofT, a_ofL, a_qTruth, a_mZip, a_qSumB, a_mPar, a_mAugI, a_mWhile, a_mPut, a_mParL, a_mPar3, a_gRevT, a_gRevL, a_mZip3, a_mIns, a_gTRng, a_mRetO, a_mRetL, a_mCallL, a_mTry, a_mAugS, a_mCount, a_gCount, a_wipe_nil, a_wipe_cons, a_callM, a_callN, List.map_cons, List.map_nil, List.length_cons, List.length_nil, List.cons_append, List.nil_append, Nat.reduceAdd, Nat.reduceSub, Nat.zero_add, List.replicate_succ, List.replicate_zero, List.getElem?_cons_zero, List.getElem?_cons_succ, List.set_cons_zero, List.set_cons_succ, List.append_nil, if_true, if_false, Bool.true_eq_false, Bool.false_eq_true, decide_true, decide_false, Bool.not_true, Bool.not_false, Nat.reduceLeDiff, Nat.reduceLT, Int.reduceLT, Int.reduceLE, Option.map_some, Option.map_none, Int.reduceToNat, true_and, and_true, Int.reduceNeg, atI, ixN, c2] using fin 6 4 (by omega) (by omega)
  · simpa [a_mVar, a_mC, a_mUn, a_mBin, a_mIf, a_mAnd, a_mOr, a_mNot, a_mNil, a_mCons, a_mCallF, a_mFn, a_mTst, a_mVal, a_mChain, a_mCmp, a_mSq, a_mOwn, a_mQ, a_mQ2, a_m2Q, a_mLst, a_mDisp, a_mTup, a_mRepL, a_mSeq, a_mSkip, a_mDrop, a_mRet, a_mRetN, a_mIfS, a_mSet, a_mSetL, a_mRaise, a_mNever, a_mFor, a_mLc, a_mIt, a_mFnL, a_mEnum, a_mSlc, a_mLRng, a_mLOf, a_oNone, a_oSome, a_asN, a_asT, a_mFrz, a_mApp, a_mExt, a_mPopAt, a_mPop, a_mSetM, a_mSetT, a_mSetTM, a_mAppM, a_ownAt, a_bnd, a_bnd_exc, a_bndS, a_bndS_exc, a_bndM, a_lift, a_asL_nil, a_asL_cons, a_gSub, a_gNeg, a_gAdd, a_gAddT, a_gAddL, a_gMod, a_gFdiv, a_gPow, a_gLt, a_gLe, a_gGt, a_gGe, a_truth_bl, a_truth_int, a_truth_lst, a_truth_tup, a_truth_non, a_blD, a_sq_tup, a_sq_lst, a_sq_scr, a_it_tup, a_it_lst, a_it_scr, a_qLen, a_qAt, a_qTuple, a_qSum, a_rng1, a_gLRng, a_fMin2, a_fMax2, a_fMin3, a_fAbs, a_fIntB, a_fIntI, a_isi_non, a_isi_bl, a_isi_int, a_isi_str, a_isi_tup, a_isi_lst, a_isN, a_notN, a_ofT, a_ofL, a_qTruth, a_mZip, a_qSumB, a_mPar, a_mAugI, a_mWhile, a_mPut, a_mParL, a_mPar3, a_gRevT, a_gRevL, a_mZip3, a_mIns, a_gTRng, a_mRetO, a_mRetL, a_mCallL, a_mTry, a_mAugS, a_mCount, a_gCount, a_wipe_nil, a_wipe_cons, a_callM, a_callN, List.map_cons, List.map_nil, List.length_cons, List.length_nil, List.cons_append, List.nil_append, Nat.reduceAdd, Nat.reduceSub, Nat.zero_add, List.replicate_succ, List.replicate_zero, List.getElem?_cons_zero, List.getElem?_cons_succ, List.set_cons_zero, List.set_cons_succ, List.append_nil, if_true, if_false, Bool.true_eq_false, Bool.false_eq_true, decide_true, decide_false, Bool.not_true, Bool.not_false, Nat.reduceLeDiff, Nat.reduceLT, Int.reduceLT, Int.reduceLE, Option.map_some, Option.map_none, Int.reduceToNat, true_and, and_true, Int.reduceNeg, atI, ixN, c2] using fin 7 3 (by omega) (by omega)

theorem pow_small {s m k : Nat} (h : m ≤ k) (hs : 1 ≤ s) (hb : s ^ k ≤ 3125) : s ^ m ≤ 3125 := Nat.le_trans (Nat.pow_le_pow_right hs h) hb
theorem e_sizes2 (ns : List Int) (k : Nat) (h : AH) : ∃ size many : Nat, 2 ≤ size ∧ size ≤ 7 ∧ 1 ≤ many ∧ many ≤ size ∧ many ≤ 6 ∧ size ^ many ≤ 3125 ∧ f__law_sizes [.scr ns, .int k] h = .ok (.tup [.int size, .int many]) h := by
  have c1 := e_cell ns k h
  have c2 := e_cell ns (k + 1) h
  rw [show ((k + 1 : Nat) : Int) = (k : Int) + 1 by omega] at c2
  generalize cell ns k = x at c1
  generalize cell ns (k + 1) = y at c2
  have p1 := Int.emod_nonneg x (b := 8) (by omega)
  have p2 := Int.emod_lt_of_pos x (b := 8) (by omega)
  unfold f__law_sizes m__law_sizes
  simp only [a_mVar, a_mC, a_mUn, a_mBin, a_mIf, a_mAnd, a_mOr, a_mNot, a_mNil, a_mCons, a_mCallF, a_mFn, a_mTst, a_mVal, a_mChain, a_mCmp, a_mSq, a_mOwn, a_mQ, a_mQ2, a_m2Q, a_mLst, a_mDisp, a_mTup, a_mRepL, a_mSeq, a_mSkip, a_mDrop, a_mRet, a_mRetN, a_mIfS, a_mSet, a_mSetL, a_mRaise, a_mNever, a_mFor, a_mLc, a_mIt, a_mFnL, a_mEnum, a_mSlc, a_mLRng, a_mLOf, a_oNone, a_oSome, a_asN, a_asT, a_mFrz, a_mApp, a_mExt, a_mPopAt, a_mPop, a_mSetM, a_mSetT, a_mSetTM, a_mAppM, a_ownAt, a_bnd, a_bnd_exc, a_bndS, a_bndS_exc, a_bndM, a_lift, a_asL_nil, a_asL_cons, a_gSub, a_gNeg, a_gAdd, a_gAddT, a_gAddL, a_gMod, a_gFdiv, a_gPow, a_gLt, a_gLe, a_gGt, a_gGe, a_truth_bl, a_truth_int, a_truth_lst, a_truth_tup, a_truth_non, a_blD, a_sq_tup, a_sq_lst, a_sq_scr, a_it_tup, a_it_lst, a_it_scr, a_qLen, a_qAt, a_qTuple, a_qSum, a_rng1, a_gLRng, a_fMin2, a_fMax2, a_fMin3, a_fAbs, a_fIntB, a_fIntI, a_isi_non, a_isi_bl, a_isi_int, a_isi_str, a_isi_tup, a_isi_lst, a_isN, a_notN, a_ofT, a_ofL, a_qTruth, a_mZip, a_qSumB, a_mPar, a_mAugI, a_mWhile, a_mPut, a_mParL, a_mPar3, a_gRevT, a_gRevL, a_mZip3, a_mIns, a_gTRng, a_mRetO, a_mRetL, a_mCallL, a_mTry, a_mAugS, a_mCount, a_gCount, a_wipe_nil, a_wipe_cons, a_callM, a_callN, List.map_cons, List.map_nil, List.length_cons, List.length_nil, List.cons_append, List.nil_append, Nat.reduceAdd, Nat.reduceSub, Nat.zero_add, List.replicate_succ, List.replicate_zero, List.getElem?_cons_zero, List.getElem?_cons_succ, List.set_cons_zero, List.set_cons_succ, List.append_nil, if_true, if_false, Bool.true_eq_false, Bool.false_eq_true, decide_true, decide_false, Bool.not_true, Bool.not_false, Nat.reduceLeDiff, Nat.reduceLT, Int.reduceLT, Int.reduceLE, Option.map_some, Option.map_none, Int.reduceToNat, true_and, and_true, Int.reduceNeg, c1, c2, Int.reduceLT]
  generalize x % 8 = z at p1 p2
  have fin : ∀ (sz m : Nat), (2 ≤ sz ∧ sz ≤ 7) → (1 ≤ m ∧ m ≤ sz ∧ m ≤ 6) → sz ^ m ≤ 3125 → ∃ size many : Nat, 2 ≤ size ∧ size ≤ 7 ∧ 1 ≤ many ∧ many ≤ size ∧ many ≤ 6 ∧ size ^ many ≤ 3125 ∧ (Res.ok (D.tup [.int (sz : Nat), .int (1 + y % (m : Nat))]) h : Res D) = .ok (.tup [.int size, .int many]) h := by
    intro sz m h1 h2 h3
    have q1 := Int.emod_nonneg y (b := (m : Int)) (by omega)
    have q2 := Int.emod_lt_of_pos y (b := (m : Int)) (by omega)
    refine ⟨sz, (1 + y % (m : Int)).toNat, by omega, by omega, by omega, by omega, by omega, pow_small (by omega) (by omega) h3, ?_⟩
    rw [Int.toNat_of_nonneg (by omega)]
  have hz : z = 0 ∨ z = 1 ∨ z = 2 ∨ z = 3 ∨ z = 4 ∨ z = 5 ∨ z = 6 ∨ z = 7 := by omega
  rcases hz with rfl | rfl | rfl | rfl | rfl | rfl | rfl | rfl
  · simpa [a_mVar, a_mC, a_mUn, a_mBin, a_mIf, a_mAnd, a_mOr, a_mNot, a_mNil, a_mCons, a_mCallF, a_mFn, a_mTst, a_mVal, a_mChain, a_mCmp, a_mSq, a_mOwn, a_mQ, a_mQ2, a_m2Q, a_mLst, a_mDisp, a_mTup, a_mRepL, a_mSeq, a_mSkip, a_mDrop, a_mRet, a_mRetN, a_mIfS, a_mSet, a_mSetL, a_mRaise, a_mNever, a_mFor, a_mLc, a_mIt, a_mFnL, a_mEnum, a_mSlc, a_mLRng, a_mLOf, a_oNone, a_oSome, a_asN, a_asT, a_mFrz, a_mApp, a_mExt, a_mPopAt, a_mPop, a_mSetM, a_mSetT, a_mSetTM, a_mAppM, a_ownAt, a_bnd, a_bnd_exc, a_bndS, a_bndS_exc, a_bndM, a_lift, a_asL_nil, a_asL_cons, a_gSub, a_gNeg, a_gAdd, a_gAddT, a_gAddL, a_gMod, a_gFdiv, a_gPow, a_gLt, a_gLe, a_gGt, a_gGe, a_truth_bl, a_truth_int, a_truth_lst, a_truth_tup, a_truth_non, a_blD, a_sq_tup, a_sq_lst, a_sq_scr, a_it_tup, a_it_lst, a_it_scr, a_qLen, a_qAt, a_qTuple, a_qSum, a_rng1, a_gLRng, a_fMin2, a_fMax2, a_fMin3, a_fAbs, a_fIntB, a_fIntI, a_isi_non, a_isi_bl, a_isi_int, a_isi_str, a_isi_tup, a_isi_lst, a_isN, a_notN, a_ofT, a_ofL, a_qTruth, a_mZip, a_qSumB, a_mPar, a_mAugI, a_mWhile, a_mPut, a_mParL, a_mPar3, a_gRevT, a_gRevL, a_mZip3, a_mIns, a_gTRng, a_mRetO, a_mRetL, a_mCallL, a_mTry, a_mAugS, a_mCount, a_gCount, a_wipe_nil, a_wipe_cons, a_callM, a_callN, List.map_cons, List.map_nil, List.length_cons, List.length_nil, List.cons_append, List.nil_append, Nat.reduceAdd, Nat.reduceSub, Nat.zero_add, List.replicate_succ, List.replicate_zero, List.getElem?_cons_zero, List.getElem?_cons_succ, List.set_cons_zero, List.set_cons_succ, List.append_nil, if_true, if_false, Bool.true_eq_false, Bool.false_eq_true, decide_true, decide_false, Bool.not_true, Bool.not_false, Nat.reduceLeDiff, Nat.reduceLT, Int.reduceLT, Int.reduceLE, Option.map_some, Option.map_none, Int.reduceToNat, true_and, and_true, Int.reduceNeg, atI, ixN, c2] using fin 2 2 (by omega) (by omega) (by decide)
  · simpa [a_mVar, a_mC, a_mUn, a_mBin, a_mIf, a_mAnd, a_mOr, a_mNot, a_mNil, a_mCons, a_mCallF, a_mFn, a_mTst, a_mVal, a_mChain, a_mCmp, a_mSq, a_mOwn, a_mQ, a_mQ2, a_m2Q, a_mLst, a_mDisp, a_mTup, a_mRepL, a_mSeq, a_mSkip, a_mDrop, a_mRet, a_mRetN, a_mIfS, a_mSet, a_mSetL, a_mRaise, a_mNever, a_mFor, a_mLc, a_mIt, a_mFnL, a_mEnum, a_mSlc, a_mLRng, a_mLOf, a_oNone, a_oSome, a_asN, a_asT, a_mFrz, a_mApp, a_mExt, a_mPopAt, a_mPop, a_mSetM, a_mSetT, a_mSetTM, a_mAppM, a_ownAt, a_bnd, a_bnd_exc, a_bndS, a_bndS_exc, a_bndM, a_lift, a_asL_nil, a_asL_cons, a_gSub, a_gNeg, a_gAdd, a_gAddT, a_gAddL, a_gMod, a_gFdiv, a_gPow, a_gLt, a_gLe, a_gGt, a_gGe, a_truth_bl, a_truth_int, a_truth_lst, a_truth_tup, a_truth_non, a_blD, a_sq_tup, a_sq_lst, a_sq_scr, a_it_tup, a_it_lst, a_it_scr, a_qLen, a_qAt, a_qTuple, a_qSum, a_rng1, a_gLRng, a_fMin2, a_fMax2, a_fMin3, a_fAbs, a_fIntB, a_fIntI, a_isi_non, a_isi_bl, a_isi_int, a_isi_str, a_isi_tup, a_isi_lst, a_isN, a_notN, a_ofT, a_ofL, a_qTruth, a_mZip, a_qSumB, a_mPar, a_mAugI, a_mWhile, a_mPut, a_mParL, a_mPar3, a_gRevT, a_gRevL, a_mZip3, a_mIns, a_gTRng, a_mRetO, a_mRetL, a_mCallL, a_mTry, a_mAugS, a_mCount, a_gCount, a_wipe_nil, a_wipe_cons, a_callM, a_callN, List.map_cons, List.map_nil, List.length_cons, List.length_nil, List.cons_append, List.nil_append, Nat.reduceAdd, Nat.reduceSub, Nat.zero_add, List.replicate_succ, List.replicate_zero, List.getElem?_cons_zero, List.getElem?_cons_succ, List.set_cons_zero, List.set_cons_succ, List.append_nil, if_true, if_false, Bool.true_eq_false, Bool.false_eq_true, decide_true, decide_false, Bool.not_true, Bool.not_false, Nat.reduceLeDiff, Nat.reduceLT, Int.reduceLT, Int.reduceLE, Option.map_some, Option.map_none, Int.reduceToNat, true_and, and_true, Int.reduceNeg, atI, ixN, c2] using fin 3 3 (by omega) (by omega) (by decide)
  · simpa [a_mVar, a_mC, a_mUn, a_mBin, a_mIf, a_mAnd, a_mOr, a_mNot, a_mNil, a_mCons, a_mCallF, a_mFn, a_mTst, a_mVal, a_mChain, a_mCmp, a_mSq, a_mOwn, a_mQ, a_mQ2, a_m2Q, a_mLst, a_mDisp, a_mTup, a_mRepL, a_mSeq, a_mSkip, a_mDrop, a_mRet, a_mRetN, a_mIfS, a_mSet, a_mSetL, a_mRaise, a_mNever, a_mFor, a_mLc, a_mIt, a_mFnL, a_mEnum, a_mSlc, a_mLRng, a_mLOf, a_oNone, a_oSome, a_asN, a_asT, a_mFrz, a_mApp, a_mExt, a_mPopAt, a_mPop, a_mSetM, a_mSetT, a_mSetTM, a_mAppM, a_ownAt, a_bnd, a_bnd_exc, a_bndS, a_bndS_exc, a_bndM, a_lift, a_asL_nil, a_asL_cons, a_gSub, a_gNeg, a_gAdd, a_gAddT, a_gAddL, a_gMod, a_gFdiv, a_gPow, a_gLt, a_gLe, a_gGt, a_gGe, a_truth_bl, a_truth_int, a_truth_lst, a_truth_tup, a_truth_non, a_blD, a_sq_tup, a_sq_lst, a_sq_scr, a_it_tup, a_it_lst, a_it_scr, a_qLen, a_qAt, a_qTuple, a_qSum, a_rng1, a_gLRng, a_fMin2, a_fMax2, a_fMin3, a_fAbs, a_fIntB, a_fIntI, a_isi_non, a_isi_bl, a_isi_int, a_isi_str, a_isi_tup, a_isi_lst, a_isN, a_notN, a_ofT, a_ofL, a_qTruth, a_mZip, a_qSumB, a_mPar, a_mAugI, a_mWhile, a_mPut, a_mParL, a_mPar3, a_gRevT, a_gRevL, a_mZip3, a_mIns, a_gTRng, a_mRetO, a_mRetL, a_mCallL, a_mTry, a_mAugS, a_mCount, a_gCount, a_wipe_nil, a_wipe_cons, a_callM, a_callN, List.map_cons, List.map_nil, List.length_cons, List.length_nil, List.cons_append, List.nil_append, Nat.reduceAdd, Nat.reduceSub, Nat.zero_add, List.replicate_succ, List.replicate_zero, List.getElem?_cons_zero, List.getElem?_cons_succ, List.set_cons_zero, List.set_cons_succ, List.append_nil, if_true, if_false, Bool.true_eq_false, Bool.false_eq_true, decide_true, decide_false, Bool.not_true, Bool.not_false, Nat.reduceLeDiff, Nat.reduceLT, Int.reduceLT, Int.reduceLE, Option.map_some, Option.map_none, Int.reduceToNat, true_and, and_true, Int.reduceNeg, atI, ixN, c2] using fin 4 4 (by omega) (by omega) (by decide)
  · simpa [a_mVar, a_mC, a_mUn, a_mBin, a_mIf, a_mAnd, a_mOr, a_mNot, a_mNil, a_mCons, a_mCallF, a_mFn, a_mTst, a_mVal, a_mChain, a_mCmp, a_mSq, a_mOwn, a_mQ, a_mQ2, a_m2Q, a_mLst, a_mDisp, a_mTup, a_mRepL, a_mSeq, a_mSkip, a_mDrop, a_mRet, a_mRetN, a_mIfS, a_mSet, a_mSetL, a_mRaise, a_mNever, a_mFor, a_mLc, a_mIt, a_mFnL, a_mEnum, a_mSlc, a_mLRng, a_mLOf, a_oNone, a_oSome, a_asN, a_asT, a_mFrz, a_mApp, a_mExt, a_mPopAt, a_mPop, a_mSetM, a_mSetT, a_mSetTM, a_mAppM, a_ownAt, a_bnd, a_bnd_exc, a_bndS, a_bndS_exc, a_bndM, a_lift, a_asL_nil, a_asL_cons, a_gSub, a_gNeg, a_gAdd, a_gAddT, a_gAddL, a_gMod, a_gFdiv, a_gPow, a_gLt, a_gLe, a_gGt, a_gGe, a_truth_bl, a_truth_int, a_truth_lst, a_truth_tup, a_truth_non, a_blD, a_sq_tup, a_sq_lst, a_sq_scr, a_it_tup, a_it_lst, a_it_scr, a_qLen, a_qAt, a_qTuple, a_qSum, a_rng1, a_gLRng, a_fMin2, a_fMax2, a_fMin3, a_fAbs, a_fIntB, a_fIntI, a_isi_non, a_isi_bl, a_isi_int, a_isi_str, a_isi_tup, a_isi_lst, a_isN, a_notN, a_ofT, a_ofL, a_qTruth, a_mZip, a_qSumB, a_mPar, a_mAugI, a_mWhile, a_mPut, a_mParL, a_mPar3, a_gRevT, a_gRevL, a_mZip3, a_mIns, a_gTRng, a_mRetO, a_mRetL, a_mCallL, a_mTry, a_mAugS, a_mCount, a_gCount, a_wipe_nil, a_wipe_cons, a_callM, a_callN, List.map_cons, List.map_nil, List.length_cons, List.length_nil, List.cons_append, List.nil_append, Nat.reduceAdd, Nat.reduceSub, Nat.zero_add, List.replicate_succ, List.replicate_zero, List.getElem?_cons_zero, List.getElem?_cons_succ, List.set_cons_zero, List.set_cons_succ, List.append_nil, if_true, if_false, Bool.true_eq_false, Bool.false_eq_true, decide_true, decide_false, Bool.not_true, Bool.not_false, Nat.reduceLeDiff, Nat.reduceLT, Int.reduceLT, Int.reduceLE, Option.map_some, Option.map_none, Int.reduceToNat, true_and, and_true, Int.reduceNeg, atI, ixN, c2] using fin 5 5 (by omega) (by omega) (by decide)
  · simpa [a_mVar, a_mC, a_mUn, a_mBin, a_mIf, a_mAnd, a_mOr, a_mNot, a_mNil, a_mCons, a_mCallF, a_mFn, a_mTst, a_mVal, a_mChain, a_mCmp, a_mSq, a_mOwn, a_mQ, a_mQ2, a_m2Q, a_mLst, a_mDisp, a_mTup, a_mRepL, a_mSeq, a_mSkip, a_mDrop, a_mRet, a_mRetN, a_mIfS, a_mSet, a_mSetL, a_mRaise, a_mNever, a_mFor, a_mLc, a_mIt, a_mFnL, a_mEnum, a_mSlc, a_mLRng, a_mLOf, a_oNone, a_oSome, a_asN, a_asT, a_mFrz, a_mApp, a_mExt, a_mPopAt, a_mPop, a_mSetM, a_mSetT, a_mSetTM, a_mAppM, a_ownAt, a_bnd, a_bnd_exc, a_bndS, a_bndS_exc, a_bndM, a_lift, a_asL_nil, a_asL_cons, a_gSub, a_gNeg, a_gAdd, a_gAddT, a_gAddL, a_gMod, a_gFdiv, a_gPow, a_gLt, a_gLe, a_gGt, a_gGe, a_truth_bl, a_truth_int, a_truth_lst, a_truth_tup, a_truth_non, a_blD, a_sq_tup, a_sq_lst, a_sq_scr, a_it_tup, a_it_lst, a_it_scr, a_qLen, a_qAt, a_qTuple, a_qSum, a_rng1, a_gLRng, a_fMin2, a_fMax2, a_fMin3, a_fAbs, a_fIntB, a_fIntI, a_isi_non, a_isi_bl, a_isi_int, a_isi_str, a_isi_tup, a_isi_lst, a_isN, a_notN, a_ofT, a_ofL, a_qTruth, a_mZip, a_qSumB, a_mPar, a_mAugI, a_mWhile, a_mPut, a_mParL, a_mPar3, a_gRevT, a_gRevL, a_mZip3, a_mIns, a_gTRng, a_mRetO, a_mRetL, a_mCallL, a_mTry, a_mAugS, a_mCount, a_gCount, a_wipe_nil, a_wipe_cons, a_callM, a_callN, List.map_cons, List.map_nil, List.length_cons, List.length_nil, List.cons_append, List.nil_append, Nat.reduceAdd, Nat.reduceSub, Nat.zero_add, List.replicate_succ, List.replicate_zero, List.getElem?_cons_zero, List.getElem?_cons_succ, List.set_cons_zero, List.set_cons_succ, List.append_nil, if_true, if_false, Bool.true_eq_false, Bool.false_eq_true, decide_true, decide_false, Bool.not_true, Bool.not_false, Nat.reduceLeDiff, Nat.reduceLT, Int.reduceLT, Int.reduceLE, Option.map_some, Option.map_none, Int.reduceToNat, true_and, and_true, Int.reduceNeg, atI, ixN, c2] using fin 4 4 (by omega) (by omega) (by decide)
  · simpa [a_mVar, a_mC, a_mUn, a_mBin, a_mIf, a_mAnd, a_mOr, a_mNot, a_mNil, a_mCons, a_mCallF, a_mFn, a_mTst, a_mVal, a_mChain, a_mCmp, a_mSq, a_mOwn, a_mQ, a_mQ2, a_m2Q, a_mLst, a_mDisp, a_mTup, a_mRepL, a_mSeq, a_mSkip, a_mDrop, a_mRet, a_mRetN, a_mIfS, a_mSet, a_mSetL, a_mRaise, a_mNever, a_mFor, a_mLc, a_mIt, a_mFnL, a_mEnum, a_mSlc, a_mLRng, a_mLOf, a_oNone, a_oSome, a_asN, a_asT, a_mFrz, a_mApp, a_mExt, a_mPopAt, a_mPop, a_mSetM, a_mSetT, a_mSetTM, a_mAppM, a_ownAt, a_bnd, a_bnd_exc, a_bndS, a_bndS_exc, a_bndM, a_lift, a_asL_nil, a_asL_cons, a_gSub, a_gNeg, a_gAdd, a_gAddT, a_gAddL, a_gMod, a_gFdiv, a_gPow, a_gLt, a_gLe, a_gGt, a_gGe, a_truth_bl, a_truth_int, a_truth_lst, a_truth_tup, a_truth_non, a_blD, a_sq_tup, a_sq_lst, a_sq_scr, a_it_tup, a_it_lst, a_it_scr, a_qLen, a_qAt, a_qTuple, a_qSum, a_rng1, a_gLRng, a_fMin2, a_fMax2, a_fMin3, a_fAbs, a_fIntB, a_fIntI, a_isi_non, a_isi_bl, a_isi_int, a_isi_str, a_isi_tup, a_isi_lst, a_isN, a_notN, a_ofT, a_ofL, a_qTruth, a_mZip, a_qSumB, a_mPar, a_mAugI, a_mWhile, a_mPut, a_mParL, a_mPar3, a_gRevT, a_gRevL, a_mZip3, a_mIns, a_gTRng, a_mRetO, a_mRetL, a_mCallL, a_mTry, a_mAugS, a_mCount, a_gCount, a_wipe_nil, a_wipe_cons, a_callM, a_callN, List.map_cons, List.map_nil, List.length_cons, List.length_nil, List.cons_append, List.nil_append, Nat.reduceAdd, Nat.reduceSub, Nat.zero_add, List.replicate_succ, List.replicate_zero, List.getElem?_cons_zero, List.getElem?_cons_succ, List.set_cons_zero, List.set_cons_succ, List.append_nil, if_true, if_false, Bool.true_eq_false, Bool.false_eq_true, decide_true, decide_false, Bool.not_true, Bool.not_false, Nat.reduceLeDiff, Nat.reduceLT, Int.reduceLT, Int.reduceLE, Option.map_some, Option.map_none, Int.reduceToNat, true_and, and_true, Int.reduceNeg, atI, ixN, c2] using fin 5 5 (by omega) (by omega) (by decide)
  · simpa [a_mVar, a_mC, a_mUn, a_mBin, a_mIf, a_mAnd, a_mOr, a_mNot, a_mNil, a_mCons, a_mCallF, a_mFn, a_mTst, a_mVal, a_mChain, a_mCmp, a_mSq, a_mOwn, a_mQ, a_mQ2, a_m2Q, a_mLst, a_mDisp, a_mTup, a_mRepL, a_mSeq, a_mSkip, a_mDrop, a_mRet, a_mRetN, a_mIfS, a_mSet, a_mSetL, a_mRaise, a_mNever, a_mFor, a_mLc, a_mIt, a_mFnL, a_mEnum, a_mSlc, a_mLRng, a_mLOf, a_oNone, a_oSome, a_asN, a_asT, a_mFrz, a_mApp, a_mExt, a_mPopAt, a_mPop, a_mSetM, a_mSetT, a_mSetTM, a_mAppM, a_ownAt, a_bnd, a_bnd_exc, a_bndS, a_bndS_exc, a_bndM, a_lift, a_asL_nil, a_asL_cons, a_gSub, a_gNeg, a_gAdd, a_gAddT, a_gAddL, a_gMod, a_gFdiv, a_gPow, a_gLt, a_gLe, a_gGt, a_gGe, a_truth_bl, a_truth_int, a_truth_lst, a_truth_tup, a_truth_non, a_blD, a_sq_tup, a_sq_lst, a_sq_scr, a_it_tup, a_it_lst, a_it_scr, a_qLen, a_qAt, a_qTuple, a_qSum, a_rng1, a_gLRng, a_fMin2, a_fMax2, a_fMin3, a_fAbs, a_fIntB, a_fIntI, a_isi_non, a_isi_bl, a_isi_int, a_isi_str, a_isi_tup, a_isi_lst, a_isN, a_notN, a_ofT, a_ofL, a_qTruth, a_mZip, a_qSumB, a_mPar, a_mAugI, a_mWhile, a_mPut, a_mParL, a_mPar3, a_gRevT, a_gRevL, a_mZip3, a_mIns, a_gTRng, a_mRetO, a_mRetL, a_mCallL, a_mTry, a_mAugS, a_mCount, a_gCount, a_wipe_nil, a_wipe_cons, a_callM, a_callN, List.map_cons, List.map_nil, List.length_cons, List.length_nil, List.cons_append, List.nil_append, Nat.reduceAdd, Nat.reduceSub, Nat.zero_add, List.replicate_succ, List.replicate_zero, List.getElem?_cons_zero, List.getElem?_cons_succ, List.set_cons_zero, List.set_cons_succ, List.append_nil, if_true, if_false, Bool.true_eq_false, Bool.false_eq_true, decide_true, decide_false, Bool.not_true, Bool.not_false, Nat.reduceLeDiff, Nat.reduceLT, Int.reduceLT, Int.reduceLE, Option.map_some, Option.map_none, Int.reduceToNat, true_and, and_true, Int.reduceNeg, atI, ixN, c2] using fin 6 4 (by omega) (by omega) (by decide)
  · simpa [a_mVar, a_mC, a_mUn, a_mBin, a_mIf, a_mAnd, a_mOr, a_mNot, a_mNil, a_mCons, a_mCallF, a_mFn, a_mTst, a_mVal, a_mChain, a_mCmp, a_mSq, a_mOwn, a_mQ, a_mQ2, a_m2Q, a_mLst, a_mDisp, a_mTup, a_mRepL, a_mSeq, a_mSkip, a_mDrop, a_mRet, a_mRetN, a_mIfS, a_mSet, a_mSetL, a_mRaise, a_mNever, a_mFor, a_mLc, a_mIt, a_mFnL, a_mEnum, a_mSlc, a_mLRng, a_mLOf, a_oNone, a_oSome, a_asN, a_asT, a_mFrz, a_mApp, a_mExt, a_mPopAt, a_mPop, a_mSetM, a_mSetT, a_mSetTM, a_mAppM, a_ownAt, a_bnd, a_bnd_exc, a_bndS, a_bndS_exc, a_bndM, a_lift, a_asL_nil, a_asL_cons, a_gSub, a_gNeg, a_gAdd, a_gAddT, a_gAddL, a_gMod, a_gFdiv, a_gPow, a_gLt, a_gLe, a_gGt, a_gGe, a_truth_bl, a_truth_int, a_truth_lst, a_truth_tup, a_truth_non, a_blD, a_sq_tup, a_sq_lst, a_sq_scr, a_it_tup, a_it_lst, a_it_scr, a_qLen, a_qAt, a_qTuple, a_qSum, a_rng1, a_gLRng, a_fMin2, a_fMax2, a_fMin3, a_fAbs, a_fIntB, a_fIntI, a_isi_non, a_isi_bl, a_isi_int, a_isi_str, a_isi_tup, a_isi_lst, a_isN, a_notN, a_ofT, a_ofL, a_qTruth, a_mZip, a_qSumB, a_mPar, a_mAugI, a_mWhile, a_mPut, a_mParL, a_mPar3, a_gRevT, a_gRevL, a_mZip3, a_mIns, a_gTRng, a_mRetO, a_mRetL, a_mCallL, a_mTry, a_mAugS, a_mCount, a_gCount, a_wipe_nil, a_wipe_cons, a_callM, a_callN, List.map_cons, List.map_nil, List.length_cons, List.length_nil, List.cons_append, List.nil_append, Nat.reduceAdd, Nat.reduceSub, Nat.zero_add, List.replicate_succ, List.replicate_zero, List.getElem?_cons_zero, List.getElem?_cons_succ, List.set_cons_zero, List.set_cons_succ, List.append_nil, if_true, if_false, Bool.true_eq_false, Bool.false_eq_true, decide_true, decide_false, Bool.not_true, Bool.not_false, Nat.reduceLeDiff, Nat.reduceLT, Int.reduceLT, Int.reduceLE, Option.map_some, Option.map_none, Int.reduceToNat, true_and, and_true, Int.reduceNeg, atI, ixN, c2] using fin 7 3 (by omega) (by omega) (by decide)

theorem e_within (x lo hi : Int) (h : AH) : f_is_within [.int x, .int lo, .int hi] h = .ok (.bl (decide (lo ≤ x ∧ x ≤ hi))) h := by
  unfold f_is_within m_is_within
  simp only [a_mVar, a_mC, a_mUn, a_mBin, a_mIf, a_mAnd, a_mOr, a_mNot, a_mNil, a_mCons, a_mCallF, a_mFn, a_mTst, a_mVal, a_mChain, a_mCmp, a_mSq, a_mOwn, a_mQ, a_mQ2, a_m2Q, a_mLst, a_mDisp, a_mTup, a_mRepL, a_mSeq, a_mSkip, a_mDrop, a_mRet, a_mRetN, a_mIfS, a_mSet, a_mSetL, a_mRaise, a_mNever, a_mFor, a_mLc, a_mIt, a_mFnL, a_mEnum, a_mSlc, a_mLRng, a_mLOf, a_oNone, a_oSome, a_asN, a_asT, a_mFrz, a_mApp, a_mExt, a_mPopAt, a_mPop, a_mSetM, a_mSetT, a_mSetTM, a_mAppM, a_ownAt, a_bnd, a_bnd_exc, a_bndS, a_bndS_exc, a_bndM, a_lift, a_asL_nil, a_asL_cons, a_gSub, a_gNeg, a_gAdd, a_gAddT, a_gAddL, a_gMod, a_gFdiv, a_gPow, a_gLt, a_gLe, a_gGt, a_gGe, a_truth_bl, a_truth_int, a_truth_lst, a_truth_tup, a_truth_non, a_blD, a_sq_tup, a_sq_lst, a_sq_scr, a_it_tup, a_it_lst, a_it_scr, a_qLen, a_qAt, a_qTuple, a_qSum, a_rng1, a_gLRng, a_fMin2, a_fMax2, a_fMin3, a_fAbs, a_fIntB, a_fIntI, a_isi_non, a_isi_bl, a_isi_int, a_isi_str, a_isi_tup, a_isi_lst, a_isN, a_notN, a_ofT, a_ofL, a_qTruth, a_mZip, a_qSumB, a_mPar, a_mAugI, a_mWhile, a_mPut, a_mParL, a_mPar3, a_gRevT, a_gRevL, a_mZip3, a_mIns, a_gTRng, a_mRetO, a_mRetL, a_mCallL, a_mTry, a_mAugS, a_mCount, a_gCount, a_wipe_nil, a_wipe_cons, a_callM, a_callN, List.map_cons, List.map_nil, List.length_cons, List.length_nil, List.cons_append, List.nil_append, Nat.reduceAdd, Nat.reduceSub, Nat.zero_add, List.replicate_succ, List.replicate_zero, List.getElem?_cons_zero, List.getElem?_cons_succ, List.set_cons_zero, List.set_cons_succ, List.append_nil, if_true, if_false, Bool.true_eq_false, Bool.false_eq_true, decide_true, decide_false, Bool.not_true, Bool.not_false, Nat.reduceLeDiff, Nat.reduceLT, Int.reduceLT, Int.reduceLE, Option.map_some, Option.map_none, Int.reduceToNat, true_and, and_true, Int.reduceNeg, show isT "int" "int" = true from rfl, show isT "bool" "int" = false from rfl]
  by_cases z : lo ≤ x
  · simp [z, a_mVar, a_mC, a_mUn, a_mBin, a_mIf, a_mAnd, a_mOr, a_mNot, a_mNil, a_mCons, a_mCallF, a_mFn, a_mTst, a_mVal, a_mChain, a_mCmp, a_mSq, a_mOwn, a_mQ, a_mQ2, a_m2Q, a_mLst, a_mDisp, a_mTup, a_mRepL, a_mSeq, a_mSkip, a_mDrop, a_mRet, a_mRetN, a_mIfS, a_mSet, a_mSetL, a_mRaise, a_mNever, a_mFor, a_mLc, a_mIt, a_mFnL, a_mEnum, a_mSlc, a_mLRng, a_mLOf, a_oNone, a_oSome, a_asN, a_asT, a_mFrz, a_mApp, a_mExt, a_mPopAt, a_mPop, a_mSetM, a_mSetT, a_mSetTM, a_mAppM, a_ownAt, a_bnd, a_bnd_exc, a_bndS, a_bndS_exc, a_bndM, a_lift, a_asL_nil, a_asL_cons, a_gSub, a_gNeg, a_gAdd, a_gAddT, a_gAddL, a_gMod, a_gFdiv, a_gPow, a_gLt, a_gLe, a_gGt, a_gGe, a_truth_bl, a_truth_int, a_truth_lst, a_truth_tup, a_truth_non, a_blD, a_sq_tup, a_sq_lst, a_sq_scr, a_it_tup, a_it_lst, a_it_scr, a_qLen, a_qAt, a_qTuple, a_qSum, a_rng1, a_gLRng, a_fMin2, a_fMax2, a_fMin3, a_fAbs, a_fIntB, a_fIntI, a_isi_non, a_isi_bl, a_isi_int, a_isi_str, a_isi_tup, a_isi_lst, a_isN, a_notN, a_ofT, a_ofL, a_qTruth, a_mZip, a_qSumB, a_mPar, a_mAugI, a_mWhile, a_mPut, a_mParL, a_mPar3, a_gRevT, a_gRevL, a_mZip3, a_mIns, a_gTRng, a_mRetO, a_mRetL, a_mCallL, a_mTry, a_mAugS, a_mCount, a_gCount, a_wipe_nil, a_wipe_cons, a_callM, a_callN, List.map_cons, List.map_nil, List.length_cons, List.length_nil, List.cons_append, List.nil_append, Nat.reduceAdd, Nat.reduceSub, Nat.zero_add, List.replicate_succ, List.replicate_zero, List.getElem?_cons_zero, List.getElem?_cons_succ, List.set_cons_zero, List.set_cons_succ, List.append_nil, if_true, if_false, Bool.true_eq_false, Bool.false_eq_true, decide_true, decide_false, Bool.not_true, Bool.not_false, Nat.reduceLeDiff, Nat.reduceLT, Int.reduceLT, Int.reduceLE, Option.map_some, Option.map_none, Int.reduceToNat, true_and, and_true, Int.reduceNeg]
  · simp [z, a_mVar, a_mC, a_mUn, a_mBin, a_mIf, a_mAnd, a_mOr, a_mNot, a_mNil, a_mCons, a_mCallF, a_mFn, a_mTst, a_mVal, a_mChain, a_mCmp, a_mSq, a_mOwn, a_mQ, a_mQ2, a_m2Q, a_mLst, a_mDisp, a_mTup, a_mRepL, a_mSeq, a_mSkip, a_mDrop, a_mRet, a_mRetN, a_mIfS, a_mSet, a_mSetL, a_mRaise, a_mNever, a_mFor, a_mLc, a_mIt, a_mFnL, a_mEnum, a_mSlc, a_mLRng, a_mLOf, a_oNone, a_oSome, a_asN, a_asT, a_mFrz, a_mApp, a_mExt, a_mPopAt, a_mPop, a_mSetM, a_mSetT, a_mSetTM, a_mAppM, a_ownAt, a_bnd, a_bnd_exc, a_bndS, a_bndS_exc, a_bndM, a_lift, a_asL_nil, a_asL_cons, a_gSub, a_gNeg, a_gAdd, a_gAddT, a_gAddL, a_gMod, a_gFdiv, a_gPow, a_gLt, a_gLe, a_gGt, a_gGe, a_truth_bl, a_truth_int, a_truth_lst, a_truth_tup, a_truth_non, a_blD, a_sq_tup, a_sq_lst, a_sq_scr, a_it_tup, a_it_lst, a_it_scr, a_qLen, a_qAt, a_qTuple, a_qSum, a_rng1, a_gLRng, a_fMin2, a_fMax2, a_fMin3, a_fAbs, a_fIntB, a_fIntI, a_isi_non, a_isi_bl, a_isi_int, a_isi_str, a_isi_tup, a_isi_lst, a_isN, a_notN, a_ofT, a_ofL, a_qTruth, a_mZip, a_qSumB, a_mPar, a_mAugI, a_mWhile, a_mPut, a_mParL, a_mPar3, a_gRevT, a_gRevL, a_mZip3, a_mIns, a_gTRng, a_mRetO, a_mRetL, a_mCallL, a_mTry, a_mAugS, a_mCount, a_gCount, a_wipe_nil, a_wipe_cons, a_callM, a_callN, List.map_cons, List.map_nil, List.length_cons, List.length_nil, List.cons_append, List.nil_append, Nat.reduceAdd, Nat.reduceSub, Nat.zero_add, List.replicate_succ, List.replicate_zero, List.getElem?_cons_zero, List.getElem?_cons_succ, List.set_cons_zero, List.set_cons_succ, List.append_nil, if_true, if_false, Bool.true_eq_false, Bool.false_eq_true, decide_true, decide_false, Bool.not_true, Bool.not_false, Nat.reduceLeDiff, Nat.reduceLT, Int.reduceLT, Int.reduceLE, Option.map_some, Option.map_none, Int.reduceToNat, true_and, and_true, Int.reduceNeg]
theorem e_look_size (size : Nat) (h1 : 2 ≤ size) (h2 : size ≤ 7) (h : AH) : f_look_size [.int size] h = .ok .non h := by
  unfold f_look_size m_look_size
  simp only [a_mVar, a_mC, a_mUn, a_mBin, a_mIf, a_mAnd, a_mOr, a_mNot, a_mNil, a_mCons, a_mCallF, a_mFn, a_mTst, a_mVal, a_mChain, a_mCmp, a_mSq, a_mOwn, a_mQ, a_mQ2, a_m2Q, a_mLst, a_mDisp, a_mTup, a_mRepL, a_mSeq, a_mSkip, a_mDrop, a_mRet, a_mRetN, a_mIfS, a_mSet, a_mSetL, a_mRaise, a_mNever, a_mFor, a_mLc, a_mIt, a_mFnL, a_mEnum, a_mSlc, a_mLRng, a_mLOf, a_oNone, a_oSome, a_asN, a_asT, a_mFrz, a_mApp, a_mExt, a_mPopAt, a_mPop, a_mSetM, a_mSetT, a_mSetTM, a_mAppM, a_ownAt, a_bnd, a_bnd_exc, a_bndS, a_bndS_exc, a_bndM, a_lift, a_asL_nil, a_asL_cons, a_gSub, a_gNeg, a_gAdd, a_gAddT, a_gAddL, a_gMod, a_gFdiv, a_gPow, a_gLt, a_gLe, a_gGt, a_gGe, a_truth_bl, a_truth_int, a_truth_lst, a_truth_tup, a_truth_non, a_blD, a_sq_tup, a_sq_lst, a_sq_scr, a_it_tup, a_it_lst, a_it_scr, a_qLen, a_qAt, a_qTuple, a_qSum, a_rng1, a_gLRng, a_fMin2, a_fMax2, a_fMin3, a_fAbs, a_fIntB, a_fIntI, a_isi_non, a_isi_bl, a_isi_int, a_isi_str, a_isi_tup, a_isi_lst, a_isN, a_notN, a_ofT, a_ofL, a_qTruth, a_mZip, a_qSumB, a_mPar, a_mAugI, a_mWhile, a_mPut, a_mParL, a_mPar3, a_gRevT, a_gRevL, a_mZip3, a_mIns, a_gTRng, a_mRetO, a_mRetL, a_mCallL, a_mTry, a_mAugS, a_mCount, a_gCount, a_wipe_nil, a_wipe_cons, a_callM, a_callN, List.map_cons, List.map_nil, List.length_cons, List.length_nil, List.cons_append, List.nil_append, Nat.reduceAdd, Nat.reduceSub, Nat.zero_add, List.replicate_succ, List.replicate_zero, List.getElem?_cons_zero, List.getElem?_cons_succ, List.set_cons_zero, List.set_cons_succ, List.append_nil, if_true, if_false, Bool.true_eq_false, Bool.false_eq_true, decide_true, decide_false, Bool.not_true, Bool.not_false, Nat.reduceLeDiff, Nat.reduceLT, Int.reduceLT, Int.reduceLE, Option.map_some, Option.map_none, Int.reduceToNat, true_and, and_true, Int.reduceNeg, e_within, decide_eq_true (show (2 : Int) ≤ size ∧ (size : Int) ≤ 7 by omega)]
theorem ddup_nodup : ∀ d : List Int, d.Nodup → ddup d = d
  | [], _ => rfl
  | x :: d, h => by
    obtain ⟨h1, h2⟩ := List.nodup_cons.mp h
    rw [ddup, if_neg h1, ddup_nodup d h2]
theorem e_is_deal {size many : Nat} {d : List Int} (D : Deal size many d) (h1 : 1 ≤ many) (h2 : many ≤ 6) (h : AH) : f_is_deal [.int size, tupI d] h = .ok (.bl true) h := by
  have hl := D.len
  unfold f_is_deal m_is_deal
  simp only [a_mVar, a_mC, a_mUn, a_mBin, a_mIf, a_mAnd, a_mOr, a_mNot, a_mNil, a_mCons, a_mCallF, a_mFn, a_mTst, a_mVal, a_mChain, a_mCmp, a_mSq, a_mOwn, a_mQ, a_mQ2, a_m2Q, a_mLst, a_mDisp, a_mTup, a_mRepL, a_mSeq, a_mSkip, a_mDrop, a_mRet, a_mRetN, a_mIfS, a_mSet, a_mSetL, a_mRaise, a_mNever, a_mFor, a_mLc, a_mIt, a_mFnL, a_mEnum, a_mSlc, a_mLRng, a_mLOf, a_oNone, a_oSome, a_asN, a_asT, a_mFrz, a_mApp, a_mExt, a_mPopAt, a_mPop, a_mSetM, a_mSetT, a_mSetTM, a_mAppM, a_ownAt, a_bnd, a_bnd_exc, a_bndS, a_bndS_exc, a_bndM, a_lift, a_asL_nil, a_asL_cons, a_gSub, a_gNeg, a_gAdd, a_gAddT, a_gAddL, a_gMod, a_gFdiv, a_gPow, a_gLt, a_gLe, a_gGt, a_gGe, a_truth_bl, a_truth_int, a_truth_lst, a_truth_tup, a_truth_non, a_blD, a_sq_tup, a_sq_lst, a_sq_scr, a_it_tup, a_it_lst, a_it_scr, a_qLen, a_qAt, a_qTuple, a_qSum, a_rng1, a_gLRng, a_fMin2, a_fMax2, a_fMin3, a_fAbs, a_fIntB, a_fIntI, a_isi_non, a_isi_bl, a_isi_int, a_isi_str, a_isi_tup, a_isi_lst, a_isN, a_notN, a_ofT, a_ofL, a_qTruth, a_mZip, a_qSumB, a_mPar, a_mAugI, a_mWhile, a_mPut, a_mParL, a_mPar3, a_gRevT, a_gRevL, a_mZip3, a_mIns, a_gTRng, a_mRetO, a_mRetL, a_mCallL, a_mTry, a_mAugS, a_mCount, a_gCount, a_wipe_nil, a_wipe_cons, a_callM, a_callN, List.map_cons, List.map_nil, List.length_cons, List.length_nil, List.cons_append, List.nil_append, Nat.reduceAdd, Nat.reduceSub, Nat.zero_add, List.replicate_succ, List.replicate_zero, List.getElem?_cons_zero, List.getElem?_cons_succ, List.set_cons_zero, List.set_cons_succ, List.append_nil, if_true, if_false, Bool.true_eq_false, Bool.false_eq_true, decide_true, decide_false, Bool.not_true, Bool.not_false, Nat.reduceLeDiff, Nat.reduceLT, Int.reduceLT, Int.reduceLE, Option.map_some, Option.map_none, Int.reduceToNat, true_and, and_true, Int.reduceNeg, show isT "tuple" "tuple" = true from rfl, List.length_map, decide_eq_true (show (1 : Int) ≤ d.length by omega), decide_eq_true (show (d.length : Int) ≤ 6 by omega)]
  rw [if_pos (show d.length ≤ sizeLine by unfold sizeLine; omega), lc_eq .int (fun x => !decide (0 ≤ x ∧ x ≤ (size : Int) - 1)) .int d fun x hx => ⟨_, rfl, by simp only [a_mVar, a_mC, a_mUn, a_mBin, a_mIf, a_mAnd, a_mOr, a_mNot, a_mNil, a_mCons, a_mCallF, a_mFn, a_mTst, a_mVal, a_mChain, a_mCmp, a_mSq, a_mOwn, a_mQ, a_mQ2, a_m2Q, a_mLst, a_mDisp, a_mTup, a_mRepL, a_mSeq, a_mSkip, a_mDrop, a_mRet, a_mRetN, a_mIfS, a_mSet, a_mSetL, a_mRaise, a_mNever, a_mFor, a_mLc, a_mIt, a_mFnL, a_mEnum, a_mSlc, a_mLRng, a_mLOf, a_oNone, a_oSome, a_asN, a_asT, a_mFrz, a_mApp, a_mExt, a_mPopAt, a_mPop, a_mSetM, a_mSetT, a_mSetTM, a_mAppM, a_ownAt, a_bnd, a_bnd_exc, a_bndS, a_bndS_exc, a_bndM, a_lift, a_asL_nil, a_asL_cons, a_gSub, a_gNeg, a_gAdd, a_gAddT, a_gAddL, a_gMod, a_gFdiv, a_gPow, a_gLt, a_gLe, a_gGt, a_gGe, a_truth_bl, a_truth_int, a_truth_lst, a_truth_tup, a_truth_non, a_blD, a_sq_tup, a_sq_lst, a_sq_scr, a_it_tup, a_it_lst, a_it_scr, a_qLen, a_qAt, a_qTuple, a_qSum, a_rng1, a_gLRng, a_fMin2, a_fMax2, a_fMin3, a_fAbs, a_fIntB, a_fIntI, a_isi_non, a_isi_bl, a_isi_int, a_isi_str, a_isi_tup, a_isi_lst, a_isN, a_notN, a_ofT, a_ofL, a_qTruth, a_mZip, a_qSumB, a_mPar, a_mAugI, a_mWhile, a_mPut, a_mParL, a_mPar3, a_gRevT, a_gRevL, a_mZip3, a_mIns, a_gTRng, a_mRetO, a_mRetL, a_mCallL, a_mTry, a_mAugS, a_mCount, a_gCount, a_wipe_nil, a_wipe_cons, a_callM, a_callN, List.map_cons, List.map_nil, List.length_cons, List.length_nil, List.cons_append, List.nil_append, Nat.reduceAdd, Nat.reduceSub, Nat.zero_add, List.replicate_succ, List.replicate_zero, List.getElem?_cons_zero, List.getElem?_cons_succ, List.set_cons_zero, List.set_cons_succ, List.append_nil, if_true, if_false, Bool.true_eq_false, Bool.false_eq_true, decide_true, decide_false, Bool.not_true, Bool.not_false, Nat.reduceLeDiff, Nat.reduceLT, Int.reduceLT, Int.reduceLE, Option.map_some, Option.map_none, Int.reduceToNat, true_and, and_true, Int.reduceNeg, e_within], fun _ => by simp only [a_mVar, a_mC, a_mUn, a_mBin, a_mIf, a_mAnd, a_mOr, a_mNot, a_mNil, a_mCons, a_mCallF, a_mFn, a_mTst, a_mVal, a_mChain, a_mCmp, a_mSq, a_mOwn, a_mQ, a_mQ2, a_m2Q, a_mLst, a_mDisp, a_mTup, a_mRepL, a_mSeq, a_mSkip, a_mDrop, a_mRet, a_mRetN, a_mIfS, a_mSet, a_mSetL, a_mRaise, a_mNever, a_mFor, a_mLc, a_mIt, a_mFnL, a_mEnum, a_mSlc, a_mLRng, a_mLOf, a_oNone, a_oSome, a_asN, a_asT, a_mFrz, a_mApp, a_mExt, a_mPopAt, a_mPop, a_mSetM, a_mSetT, a_mSetTM, a_mAppM, a_ownAt, a_bnd, a_bnd_exc, a_bndS, a_bndS_exc, a_bndM, a_lift, a_asL_nil, a_asL_cons, a_gSub, a_gNeg, a_gAdd, a_gAddT, a_gAddL, a_gMod, a_gFdiv, a_gPow, a_gLt, a_gLe, a_gGt, a_gGe, a_truth_bl, a_truth_int, a_truth_lst, a_truth_tup, a_truth_non, a_blD, a_sq_tup, a_sq_lst, a_sq_scr, a_it_tup, a_it_lst, a_it_scr, a_qLen, a_qAt, a_qTuple, a_qSum, a_rng1, a_gLRng, a_fMin2, a_fMax2, a_fMin3, a_fAbs, a_fIntB, a_fIntI, a_isi_non, a_isi_bl, a_isi_int, a_isi_str, a_isi_tup, a_isi_lst, a_isN, a_notN, a_ofT, a_ofL, a_qTruth, a_mZip, a_qSumB, a_mPar, a_mAugI, a_mWhile, a_mPut, a_mParL, a_mPar3, a_gRevT, a_gRevL, a_mZip3, a_mIns, a_gTRng, a_mRetO, a_mRetL, a_mCallL, a_mTry, a_mAugS, a_mCount, a_gCount, a_wipe_nil, a_wipe_cons, a_callM, a_callN, List.map_cons, List.map_nil, List.length_cons, List.length_nil, List.cons_append, List.nil_append, Nat.reduceAdd, Nat.reduceSub, Nat.zero_add, List.replicate_succ, List.replicate_zero, List.getElem?_cons_zero, List.getElem?_cons_succ, List.set_cons_zero, List.set_cons_succ, List.append_nil, if_true, if_false, Bool.true_eq_false, Bool.false_eq_true, decide_true, decide_false, Bool.not_true, Bool.not_false, Nat.reduceLeDiff, Nat.reduceLT, Int.reduceLT, Int.reduceLE, Option.map_some, Option.map_none, Int.reduceToNat, true_and, and_true, Int.reduceNeg]⟩]
  rw [List.filter_eq_nil_iff.mpr fun x hx => by
    have := D.rg x hx
    rw [decide_eq_true (by omega)]
    decide]
  unfold qLenSet
  simp only [a_mVar, a_mC, a_mUn, a_mBin, a_mIf, a_mAnd, a_mOr, a_mNot, a_mNil, a_mCons, a_mCallF, a_mFn, a_mTst, a_mVal, a_mChain, a_mCmp, a_mSq, a_mOwn, a_mQ, a_mQ2, a_m2Q, a_mLst, a_mDisp, a_mTup, a_mRepL, a_mSeq, a_mSkip, a_mDrop, a_mRet, a_mRetN, a_mIfS, a_mSet, a_mSetL, a_mRaise, a_mNever, a_mFor, a_mLc, a_mIt, a_mFnL, a_mEnum, a_mSlc, a_mLRng, a_mLOf, a_oNone, a_oSome, a_asN, a_asT, a_mFrz, a_mApp, a_mExt, a_mPopAt, a_mPop, a_mSetM, a_mSetT, a_mSetTM, a_mAppM, a_ownAt, a_bnd, a_bnd_exc, a_bndS, a_bndS_exc, a_bndM, a_lift, a_asL_nil, a_asL_cons, a_gSub, a_gNeg, a_gAdd, a_gAddT, a_gAddL, a_gMod, a_gFdiv, a_gPow, a_gLt, a_gLe, a_gGt, a_gGe, a_truth_bl, a_truth_int, a_truth_lst, a_truth_tup, a_truth_non, a_blD, a_sq_tup, a_sq_lst, a_sq_scr, a_it_tup, a_it_lst, a_it_scr, a_qLen, a_qAt, a_qTuple, a_qSum, a_rng1, a_gLRng, a_fMin2, a_fMax2, a_fMin3, a_fAbs, a_fIntB, a_fIntI, a_isi_non, a_isi_bl, a_isi_int, a_isi_str, a_isi_tup, a_isi_lst, a_isN, a_notN, a_ofT, a_ofL, a_qTruth, a_mZip, a_qSumB, a_mPar, a_mAugI, a_mWhile, a_mPut, a_mParL, a_mPar3, a_gRevT, a_gRevL, a_mZip3, a_mIns, a_gTRng, a_mRetO, a_mRetL, a_mCallL, a_mTry, a_mAugS, a_mCount, a_gCount, a_wipe_nil, a_wipe_cons, a_callM, a_callN, List.map_cons, List.map_nil, List.length_cons, List.length_nil, List.cons_append, List.nil_append, Nat.reduceAdd, Nat.reduceSub, Nat.zero_add, List.replicate_succ, List.replicate_zero, List.getElem?_cons_zero, List.getElem?_cons_succ, List.set_cons_zero, List.set_cons_succ, List.append_nil, if_true, if_false, Bool.true_eq_false, Bool.false_eq_true, decide_true, decide_false, Bool.not_true, Bool.not_false, Nat.reduceLeDiff, Nat.reduceLT, Int.reduceLT, Int.reduceLE, Option.map_some, Option.map_none, Int.reduceToNat, true_and, and_true, Int.reduceNeg, List.isEmpty_nil, intsOf_map, if_pos (show d.length ≤ 4000 by omega), ddup_nodup d D.nd, b_eqI]
theorem e_look {size many : Nat} {d : List Int} (D : Deal size many d) (s1 : 2 ≤ size) (s2 : size ≤ 7) (h1 : 1 ≤ many) (h2 : many ≤ 6) (h : AH) : f_look [.int size, tupI d] h = .ok .non h := by
  unfold f_look m_look
  simp only [a_mVar, a_mC, a_mUn, a_mBin, a_mIf, a_mAnd, a_mOr, a_mNot, a_mNil, a_mCons, a_mCallF, a_mFn, a_mTst, a_mVal, a_mChain, a_mCmp, a_mSq, a_mOwn, a_mQ, a_mQ2, a_m2Q, a_mLst, a_mDisp, a_mTup, a_mRepL, a_mSeq, a_mSkip, a_mDrop, a_mRet, a_mRetN, a_mIfS, a_mSet, a_mSetL, a_mRaise, a_mNever, a_mFor, a_mLc, a_mIt, a_mFnL, a_mEnum, a_mSlc, a_mLRng, a_mLOf, a_oNone, a_oSome, a_asN, a_asT, a_mFrz, a_mApp, a_mExt, a_mPopAt, a_mPop, a_mSetM, a_mSetT, a_mSetTM, a_mAppM, a_ownAt, a_bnd, a_bnd_exc, a_bndS, a_bndS_exc, a_bndM, a_lift, a_asL_nil, a_asL_cons, a_gSub, a_gNeg, a_gAdd, a_gAddT, a_gAddL, a_gMod, a_gFdiv, a_gPow, a_gLt, a_gLe, a_gGt, a_gGe, a_truth_bl, a_truth_int, a_truth_lst, a_truth_tup, a_truth_non, a_blD, a_sq_tup, a_sq_lst, a_sq_scr, a_it_tup, a_it_lst, a_it_scr, a_qLen, a_qAt, a_qTuple, a_qSum, a_rng1, a_gLRng, a_fMin2, a_fMax2, a_fMin3, a_fAbs, a_fIntB, a_fIntI, a_isi_non, a_isi_bl, a_isi_int, a_isi_str, a_isi_tup, a_isi_lst, a_isN, a_notN, a_ofT, a_ofL, a_qTruth, a_mZip, a_qSumB, a_mPar, a_mAugI, a_mWhile, a_mPut, a_mParL, a_mPar3, a_gRevT, a_gRevL, a_mZip3, a_mIns, a_gTRng, a_mRetO, a_mRetL, a_mCallL, a_mTry, a_mAugS, a_mCount, a_gCount, a_wipe_nil, a_wipe_cons, a_callM, a_callN, List.map_cons, List.map_nil, List.length_cons, List.length_nil, List.cons_append, List.nil_append, Nat.reduceAdd, Nat.reduceSub, Nat.zero_add, List.replicate_succ, List.replicate_zero, List.getElem?_cons_zero, List.getElem?_cons_succ, List.set_cons_zero, List.set_cons_succ, List.append_nil, if_true, if_false, Bool.true_eq_false, Bool.false_eq_true, decide_true, decide_false, Bool.not_true, Bool.not_false, Nat.reduceLeDiff, Nat.reduceLT, Int.reduceLT, Int.reduceLE, Option.map_some, Option.map_none, Int.reduceToNat, true_and, and_true, Int.reduceNeg, e_look_size size s1 s2, e_is_deal D h1 h2]

theorem e_look_many (size many : Nat) (s1 : 2 ≤ size) (s2 : size ≤ 7) (h1 : 1 ≤ many) (h2 : many ≤ 6) (h3 : many ≤ size) (h : AH) : f_look_many [.int size, .int many] h = .ok .non h := by
  unfold f_look_many m_look_many
  simp only [a_mVar, a_mC, a_mUn, a_mBin, a_mIf, a_mAnd, a_mOr, a_mNot, a_mNil, a_mCons, a_mCallF, a_mFn, a_mTst, a_mVal, a_mChain, a_mCmp, a_mSq, a_mOwn, a_mQ, a_mQ2, a_m2Q, a_mLst, a_mDisp, a_mTup, a_mRepL, a_mSeq, a_mSkip, a_mDrop, a_mRet, a_mRetN, a_mIfS, a_mSet, a_mSetL, a_mRaise, a_mNever, a_mFor, a_mLc, a_mIt, a_mFnL, a_mEnum, a_mSlc, a_mLRng, a_mLOf, a_oNone, a_oSome, a_asN, a_asT, a_mFrz, a_mApp, a_mExt, a_mPopAt, a_mPop, a_mSetM, a_mSetT, a_mSetTM, a_mAppM, a_ownAt, a_bnd, a_bnd_exc, a_bndS, a_bndS_exc, a_bndM, a_lift, a_asL_nil, a_asL_cons, a_gSub, a_gNeg, a_gAdd, a_gAddT, a_gAddL, a_gMod, a_gFdiv, a_gPow, a_gLt, a_gLe, a_gGt, a_gGe, a_truth_bl, a_truth_int, a_truth_lst, a_truth_tup, a_truth_non, a_blD, a_sq_tup, a_sq_lst, a_sq_scr, a_it_tup, a_it_lst, a_it_scr, a_qLen, a_qAt, a_qTuple, a_qSum, a_rng1, a_gLRng, a_fMin2, a_fMax2, a_fMin3, a_fAbs, a_fIntB, a_fIntI, a_isi_non, a_isi_bl, a_isi_int, a_isi_str, a_isi_tup, a_isi_lst, a_isN, a_notN, a_ofT, a_ofL, a_qTruth, a_mZip, a_qSumB, a_mPar, a_mAugI, a_mWhile, a_mPut, a_mParL, a_mPar3, a_gRevT, a_gRevL, a_mZip3, a_mIns, a_gTRng, a_mRetO, a_mRetL, a_mCallL, a_mTry, a_mAugS, a_mCount, a_gCount, a_wipe_nil, a_wipe_cons, a_callM, a_callN, List.map_cons, List.map_nil, List.length_cons, List.length_nil, List.cons_append, List.nil_append, Nat.reduceAdd, Nat.reduceSub, Nat.zero_add, List.replicate_succ, List.replicate_zero, List.getElem?_cons_zero, List.getElem?_cons_succ, List.set_cons_zero, List.set_cons_succ, List.append_nil, if_true, if_false, Bool.true_eq_false, Bool.false_eq_true, decide_true, decide_false, Bool.not_true, Bool.not_false, Nat.reduceLeDiff, Nat.reduceLT, Int.reduceLT, Int.reduceLE, Option.map_some, Option.map_none, Int.reduceToNat, true_and, and_true, Int.reduceNeg, e_look_size size s1 s2, e_within]
  rw [decide_eq_true (by constructor; omega; split <;> omega)]
  rfl

theorem map_int {α : Type} (f : α → Int) (d : List α) : (d.map fun p => D.int (f p)) = (d.map f).map D.int := by rw [List.map_map]; rfl
theorem map_tupI {α : Type} (f : α → List Int) (d : List α) : (d.map fun p => tupI (f p)) = (d.map f).map tupI := by rw [List.map_map]; rfl

theorem cut_to (xs : List D) (n : Nat) : cutD xs none (some (n : Int)) = xs.take n := by
  unfold cutD
  rw [HT.sIx_none, HT.sIx_nat, List.drop_zero, Nat.sub_zero, List.take_eq_take_iff]
  omega
theorem enumD_map {α : Type} (f : α → D) (xs : List α) : enumD (xs.map f) = xs.zipIdx.map fun p => .tup [.int (p.2 : Nat), f p.1] := by
  unfold enumD
  rw [List.zipIdx_map, List.map_map]
  rfl

abbrev tlex : List Int → List Int → Bool := lexB fun i j => decide (i < j)
theorem sortable_tup {as : List (List Int)} (h : ∀ a ∈ as, a ≠ []) : sortable (as.map tupI) = true := by
  unfold sortable
  rw [Bool.or_eq_true]
  refine .inl (List.all_eq_true.mpr fun x hx => ?_)
  obtain ⟨a, ha, rfl⟩ := List.mem_map.mp hx
  cases a with
  | nil => exact absurd rfl (h [] ha)
  | cons y r => rfl

/-! ### all deals -/
def grown (size : Nat) (d : List Int) : List (List Int) := ((List.range size).filter fun (p : Nat) => !decide ((p : Int) ∈ d)).map fun (p : Nat) => d ++ [(p : Int)]
def everyF (size : Nat) : Nat → List (List Int)
  | 0 => [[]]
  | n + 1 => (everyF size n).flatMap (grown size)
theorem flat_len {α β : Type} (g : α → List β) (n : Nat) (hg : ∀ a, (g a).length ≤ n) : ∀ l : List α, (l.flatMap g).length ≤ n * l.length
  | [] => by simp
  | a :: l => by
    rw [List.flatMap_cons, List.length_append, List.length_cons, Nat.mul_succ]
    have := hg a
    have := flat_len g n hg l
    omega
theorem grown_len (size : Nat) (d : List Int) : (grown size d).length ≤ size := by
  unfold grown
  rw [List.length_map]
  have := List.length_filter_le (fun (p : Nat) => !decide ((p : Int) ∈ d)) (List.range size)
  rw [List.length_range] at this
  exact this
theorem every_len (size : Nat) : ∀ n, (everyF size n).length ≤ size ^ n
  | 0 => by simp [everyF]
  | n + 1 => by
    have := flat_len (grown size) size (grown_len size) (everyF size n)
    have ih := every_len size n
    unfold everyF
    rw [Nat.pow_succ, Nat.mul_comm]
    exact Nat.le_trans this (Nat.mul_le_mul_left size ih)
theorem every_deal_ok (size : Nat) : ∀ n d, d ∈ everyF size n → Deal size n d
  | 0, d, h => by
    simp [everyF] at h
    subst h
    exact ⟨rfl, List.nodup_nil, fun x hx => by cases hx⟩
  | n + 1, d, h => by
    unfold everyF at h
    obtain ⟨e, he, hd⟩ := List.mem_flatMap.mp h
    have D := every_deal_ok size n e he
    unfold grown at hd
    obtain ⟨p, hp, rfl⟩ := List.mem_map.mp hd
    obtain ⟨p1, p2⟩ := List.mem_filter.mp hp
    simp at p1 p2
    refine ⟨by simp [D.len], ?_, fun x hx => ?_⟩
    · rw [List.nodup_append]
      refine ⟨D.nd, by simp, fun a ha b hb => ?_⟩
      simp at hb
      subst hb
      exact fun q => p2 (by rw [← q]; exact ha)
    · rcases List.mem_append.mp hx with z | z
      · exact D.rg x z
      · simp at z
        subst z
        omega
theorem every_bound {size n : Nat} (s2 : size ≤ 7) (h : n ≤ 6) : (everyF size n).length ≤ 117649 := by
  have h1 := every_len size n
  have h2 : size ^ n ≤ 7 ^ n := Nat.pow_le_pow_left s2 n
  have h3 : 7 ^ n ≤ 7 ^ 6 := Nat.pow_le_pow_right (by omega) h
  have h4 : (7 : Nat) ^ 6 = 117649 := by decide
  omega
theorem lc_grown {size : Nat} {d : List Int} {env : Env'} {h : AH} {i : Nat} {e1 : M D} {t : M Bool} (ht : ∀ p : Nat, t (env.set i (.val (.int (p : Int)))) h = .ok (!decide ((p : Int) ∈ d)) h) (he : ∀ p : Nat, e1 (env.set i (.val (.int (p : Int)))) h = .ok (tupI (d ++ [(p : Int)])) h) :
    lcLoop (asN i) t e1 (rangeD 0 size) env h = .ok ((grown size d).map tupI) h := by
  rw [rangeD_map, lc_eq (fun i : Nat => D.int (0 + i)) (fun (p : Nat) => !decide ((p : Int) ∈ d)) (fun (p : Nat) => tupI (d ++ [(p : Int)])) (List.range size) fun x hx => ⟨_, rfl, by rw [Int.zero_add]; exact ht x, fun _ => by rw [Int.zero_add]; exact he x⟩]
  unfold grown
  rw [List.map_map]
  rfl
theorem take_flat {α β : Type} (g : α → List β) (l : List α) (j : Nat) (hj : j < l.length) : (l.take (j + 1)).flatMap g = (l.take j).flatMap g ++ g l[j] := by
  rw [List.take_add_one, List.getElem?_eq_getElem hj, List.flatMap_append]
  simp
theorem tupI_snoc (d : List Int) (p : Int) : D.tup (d.map .int ++ [.int p]) = tupI (d ++ [p]) := by show _ = D.tup ((d ++ [p]).map .int); rw [List.map_append]; rfl

/-! ### all deals, plain -/
theorem every_all (s : Nat) : ∀ n d, Deal s n d → d ∈ everyF s n
  | 0, d, h => by
    have := List.length_eq_zero_iff.mp h.len
    rw [this]
    exact List.mem_cons_self
  | n + 1, d, h => by
    have hne : d ≠ [] := fun e => by have := h.len; rw [e] at this; simp at this
    have es := List.dropLast_concat_getLast hne
    have hd : Deal s n d.dropLast := by
      refine ⟨by rw [List.length_dropLast, h.len]; rfl, ?_, fun x hx => h.rg x (List.dropLast_subset d hx)⟩
      have := h.nd
      rw [← es] at this
      exact (List.nodup_append.mp this).1
    refine List.mem_flatMap.mpr ⟨_, every_all s n _ hd, ?_⟩
    have hr := h.rg _ (List.getLast_mem hne)
    unfold grown
    refine List.mem_map.mpr ⟨(d.getLast hne).toNat, List.mem_filter.mpr ⟨List.mem_range.mpr (by omega), ?_⟩, ?_⟩
    · rw [Int.toNat_of_nonneg hr.1]
      have nd := h.nd
      rw [← es] at nd
      have := (List.nodup_append.mp nd).2.2
      simp only [Bool.not_eq_true', decide_eq_false_iff_not]
      exact fun z => this _ z _ (List.mem_singleton.mpr rfl) rfl
    · rw [Int.toNat_of_nonneg hr.1]
      exact es
theorem grown_nodup (s : Nat) (d : List Int) : (grown s d).Nodup := by
  unfold grown
  have key : ∀ l : List Nat, l.Nodup → (l.map fun (p : Nat) => d ++ [(p : Int)]).Nodup := by
    intro l
    induction l with
    | nil => intro _; exact List.nodup_nil
    | cons a l ih =>
      intro h
      obtain ⟨n1, n2⟩ := List.nodup_cons.mp h
      rw [List.map_cons, List.nodup_cons]
      refine ⟨fun z => n1 ?_, ih n2⟩
      obtain ⟨b, hb, e⟩ := List.mem_map.mp z
      have := (List.append_cancel_left e)
      simp at this
      rw [show a = b by omega]
      exact hb
  exact key _ (List.nodup_range.filter _)
theorem every_nodup (s : Nat) : ∀ n, (everyF s n).Nodup
  | 0 => by simp [everyF]
  | n + 1 => by
    have key : ∀ l : List (List Int), l.Nodup → (l.flatMap (grown s)).Nodup := by
      intro l
      induction l with
      | nil => intro _; exact List.nodup_nil
      | cons a l ih =>
        intro h
        obtain ⟨n1, n2⟩ := List.nodup_cons.mp h
        rw [List.flatMap_cons, List.nodup_append]
        refine ⟨grown_nodup s a, ih n2, fun x hx y hy e => n1 ?_⟩
        subst e
        obtain ⟨b, hb, hy⟩ := List.mem_flatMap.mp hy
        unfold grown at hx hy
        obtain ⟨p, _, rfl⟩ := List.mem_map.mp hx
        obtain ⟨q, _, e⟩ := List.mem_map.mp hy
        have := List.append_inj_left' e (by simp)
        rw [← this]
        exact hb
    exact key _ (every_nodup s n)

theorem e_every {size many : Nat} (s2 : size ≤ 7) (h2 : many ≤ 6) (h : AH) : f_every_deal [.int size, .int many] h = .ok (.lst ((everyF size many).map tupI)) h := by
  have hz : size ≤ sizeLine := by unfold sizeLine; omega
  unfold f_every_deal m_every_deal
  simp only [a_mVar, a_mC, a_mUn, a_mBin, a_mIf, a_mAnd, a_mOr, a_mNot, a_mNil, a_mCons, a_mCallF, a_mFn, a_mTst, a_mVal, a_mChain, a_mCmp, a_mSq, a_mOwn, a_mQ, a_mQ2, a_m2Q, a_mLst, a_mDisp, a_mTup, a_mRepL, a_mSeq, a_mSkip, a_mDrop, a_mRet, a_mRetN, a_mIfS, a_mSet, a_mSetL, a_mRaise, a_mNever, a_mFor, a_mLc, a_mIt, a_mFnL, a_mEnum, a_mSlc, a_mLRng, a_mLOf, a_oNone, a_oSome, a_asN, a_asT, a_mFrz, a_mApp, a_mExt, a_mPopAt, a_mPop, a_mSetM, a_mSetT, a_mSetTM, a_mAppM, a_ownAt, a_bnd, a_bnd_exc, a_bndS, a_bndS_exc, a_bndM, a_lift, a_asL_nil, a_asL_cons, a_gSub, a_gNeg, a_gAdd, a_gAddT, a_gAddL, a_gMod, a_gFdiv, a_gPow, a_gLt, a_gLe, a_gGt, a_gGe, a_truth_bl, a_truth_int, a_truth_lst, a_truth_tup, a_truth_non, a_blD, a_sq_tup, a_sq_lst, a_sq_scr, a_it_tup, a_it_lst, a_it_scr, a_qLen, a_qAt, a_qTuple, a_qSum, a_rng1, a_gLRng, a_fMin2, a_fMax2, a_fMin3, a_fAbs, a_fIntB, a_fIntI, a_isi_non, a_isi_bl, a_isi_int, a_isi_str, a_isi_tup, a_isi_lst, a_isN, a_notN, a_ofT, a_ofL, a_qTruth, a_mZip, a_qSumB, a_mPar, a_mAugI, a_mWhile, a_mPut, a_mParL, a_mPar3, a_gRevT, a_gRevL, a_mZip3, a_mIns, a_gTRng, a_mRetO, a_mRetL, a_mCallL, a_mTry, a_mAugS, a_mCount, a_gCount, a_wipe_nil, a_wipe_cons, a_callM, a_callN, List.map_cons, List.map_nil, List.length_cons, List.length_nil, List.cons_append, List.nil_append, Nat.reduceAdd, Nat.reduceSub, Nat.zero_add, List.replicate_succ, List.replicate_zero, List.getElem?_cons_zero, List.getElem?_cons_succ, List.set_cons_zero, List.set_cons_succ, List.append_nil, if_true, if_false, Bool.true_eq_false, Bool.false_eq_true, decide_true, decide_false, Bool.not_true, Bool.not_false, Nat.reduceLeDiff, Nat.reduceLT, Int.reduceLT, Int.reduceLE, Option.map_some, Option.map_none, Int.reduceToNat, true_and, and_true, Int.reduceNeg]
  rw [if_pos (show (-1000000 : Int) ≤ many ∧ (many : Int) ≤ 1000000 by omega)]
  simp only [a_mVar, a_mC, a_mUn, a_mBin, a_mIf, a_mAnd, a_mOr, a_mNot, a_mNil, a_mCons, a_mCallF, a_mFn, a_mTst, a_mVal, a_mChain, a_mCmp, a_mSq, a_mOwn, a_mQ, a_mQ2, a_m2Q, a_mLst, a_mDisp, a_mTup, a_mRepL, a_mSeq, a_mSkip, a_mDrop, a_mRet, a_mRetN, a_mIfS, a_mSet, a_mSetL, a_mRaise, a_mNever, a_mFor, a_mLc, a_mIt, a_mFnL, a_mEnum, a_mSlc, a_mLRng, a_mLOf, a_oNone, a_oSome, a_asN, a_asT, a_mFrz, a_mApp, a_mExt, a_mPopAt, a_mPop, a_mSetM, a_mSetT, a_mSetTM, a_mAppM, a_ownAt, a_bnd, a_bnd_exc, a_bndS, a_bndS_exc, a_bndM, a_lift, a_asL_nil, a_asL_cons, a_gSub, a_gNeg, a_gAdd, a_gAddT, a_gAddL, a_gMod, a_gFdiv, a_gPow, a_gLt, a_gLe, a_gGt, a_gGe, a_truth_bl, a_truth_int, a_truth_lst, a_truth_tup, a_truth_non, a_blD, a_sq_tup, a_sq_lst, a_sq_scr, a_it_tup, a_it_lst, a_it_scr, a_qLen, a_qAt, a_qTuple, a_qSum, a_rng1, a_gLRng, a_fMin2, a_fMax2, a_fMin3, a_fAbs, a_fIntB, a_fIntI, a_isi_non, a_isi_bl, a_isi_int, a_isi_str, a_isi_tup, a_isi_lst, a_isN, a_notN, a_ofT, a_ofL, a_qTruth, a_mZip, a_qSumB, a_mPar, a_mAugI, a_mWhile, a_mPut, a_mParL, a_mPar3, a_gRevT, a_gRevL, a_mZip3, a_mIns, a_gTRng, a_mRetO, a_mRetL, a_mCallL, a_mTry, a_mAugS, a_mCount, a_gCount, a_wipe_nil, a_wipe_cons, a_callM, a_callN, List.map_cons, List.map_nil, List.length_cons, List.length_nil, List.cons_append, List.nil_append, Nat.reduceAdd, Nat.reduceSub, Nat.zero_add, List.replicate_succ, List.replicate_zero, List.getElem?_cons_zero, List.getElem?_cons_succ, List.set_cons_zero, List.set_cons_succ, List.append_nil, if_true, if_false, Bool.true_eq_false, Bool.false_eq_true, decide_true, decide_false, Bool.not_true, Bool.not_false, Nat.reduceLeDiff, Nat.reduceLT, Int.reduceLT, Int.reduceLE, Option.map_some, Option.map_none, Int.reduceToNat, true_and, and_true, Int.reduceNeg, Int.toNat_natCast]
  have key := loopF_all (h := h) (fun i : Nat => D.int (0 + i)) (fun k env => ∃ z3 z4 z5, env = [.val (.int size), .val (.int many), .val (.lst ((everyF size k).map tupI)), z3, z4, z5, .none]) (as := asN 3)
    (body := (mSeq (mSetL 4 (mDisp mNil)) (mSeq (mFor (mIt seqItems (mVar 2)) (asN 5) (mExt 4 (mLst (mLc (mFnL rng1 (mCons (mVar 0) mNil)) [6] (asN 6) (m2Q qNotIn (mVar 6) (mSq (mVar 5))) (mBin gAdd (mVar 5) (mTup (mCons (mVar 6) mNil))))))) (mFrz 4 (mSet 2 (mVar 4))))))
    (List.range many) 0 [.val (.int size), .val (.int many), .val (.lst [.tup []]), .none, .none, .none, .none] ⟨_, _, _, rfl⟩ (by
      intro j x env hj J
      obtain ⟨hjm, rfl⟩ := List.getElem?_eq_some_iff.mp hj
      simp at hjm
      obtain ⟨z3, z4, z5, rfl⟩ := J
      refine ⟨_, rfl, ?_⟩
      rw [List.getElem_range, Nat.zero_add]
      simp only [a_mVar, a_mC, a_mUn, a_mBin, a_mIf, a_mAnd, a_mOr, a_mNot, a_mNil, a_mCons, a_mCallF, a_mFn, a_mTst, a_mVal, a_mChain, a_mCmp, a_mSq, a_mOwn, a_mQ, a_mQ2, a_m2Q, a_mLst, a_mDisp, a_mTup, a_mRepL, a_mSeq, a_mSkip, a_mDrop, a_mRet, a_mRetN, a_mIfS, a_mSet, a_mSetL, a_mRaise, a_mNever, a_mFor, a_mLc, a_mIt, a_mFnL, a_mEnum, a_mSlc, a_mLRng, a_mLOf, a_oNone, a_oSome, a_asN, a_asT, a_mFrz, a_mApp, a_mExt, a_mPopAt, a_mPop, a_mSetM, a_mSetT, a_mSetTM, a_mAppM, a_ownAt, a_bnd, a_bnd_exc, a_bndS, a_bndS_exc, a_bndM, a_lift, a_asL_nil, a_asL_cons, a_gSub, a_gNeg, a_gAdd, a_gAddT, a_gAddL, a_gMod, a_gFdiv, a_gPow, a_gLt, a_gLe, a_gGt, a_gGe, a_truth_bl, a_truth_int, a_truth_lst, a_truth_tup, a_truth_non, a_blD, a_sq_tup, a_sq_lst, a_sq_scr, a_it_tup, a_it_lst, a_it_scr, a_qLen, a_qAt, a_qTuple, a_qSum, a_rng1, a_gLRng, a_fMin2, a_fMax2, a_fMin3, a_fAbs, a_fIntB, a_fIntI, a_isi_non, a_isi_bl, a_isi_int, a_isi_str, a_isi_tup, a_isi_lst, a_isN, a_notN, a_ofT, a_ofL, a_qTruth, a_mZip, a_qSumB, a_mPar, a_mAugI, a_mWhile, a_mPut, a_mParL, a_mPar3, a_gRevT, a_gRevL, a_mZip3, a_mIns, a_gTRng, a_mRetO, a_mRetL, a_mCallL, a_mTry, a_mAugS, a_mCount, a_gCount, a_wipe_nil, a_wipe_cons, a_callM, a_callN, List.map_cons, List.map_nil, List.length_cons, List.length_nil, List.cons_append, List.nil_append, Nat.reduceAdd, Nat.reduceSub, Nat.zero_add, List.replicate_succ, List.replicate_zero, List.getElem?_cons_zero, List.getElem?_cons_succ, List.set_cons_zero, List.set_cons_succ, List.append_nil, if_true, if_false, Bool.true_eq_false, Bool.false_eq_true, decide_true, decide_false, Bool.not_true, Bool.not_false, Nat.reduceLeDiff, Nat.reduceLT, Int.reduceLT, Int.reduceLE, Option.map_some, Option.map_none, Int.reduceToNat, true_and, and_true, Int.reduceNeg]
      have hb := every_bound (n := j) s2 (by omega)
      have ok : ∀ d ∈ everyF size j, d.length = j := fun d hd => (every_deal_ok size j d hd).len
      have ef : everyF size (j + 1) = (everyF size j).flatMap (grown size) := rfl
      rw [ef]
      generalize everyF size j = found at hb ok
      have key := loopF_all (h := h) tupI (fun k env => ∃ z, env = [.val (.int size), .val (.int many), .val (.lst (found.map tupI)), .val (.int (0 + (j : Int))), .own (((found.take k).flatMap (grown size)).map tupI), z, .none]) (as := asN 5)
        (body := (mExt 4 (mLst (mLc (mFnL rng1 (mCons (mVar 0) mNil)) [6] (asN 6) (m2Q qNotIn (mVar 6) (mSq (mVar 5))) (mBin gAdd (mVar 5) (mTup (mCons (mVar 6) mNil)))))))
        found 0 [.val (.int size), .val (.int many), .val (.lst (found.map tupI)), .val (.int (0 + (j : Int))), .own [], z5, .none] ⟨_, rfl⟩ (by
          intro i d env hi J
          obtain ⟨him, rfl⟩ := List.getElem?_eq_some_iff.mp hi
          obtain ⟨z, rfl⟩ := J
          refine ⟨_, rfl, ?_⟩
          have ld := ok found[i] (List.getElem_mem him)
          simp only [a_mVar, a_mC, a_mUn, a_mBin, a_mIf, a_mAnd, a_mOr, a_mNot, a_mNil, a_mCons, a_mCallF, a_mFn, a_mTst, a_mVal, a_mChain, a_mCmp, a_mSq, a_mOwn, a_mQ, a_mQ2, a_m2Q, a_mLst, a_mDisp, a_mTup, a_mRepL, a_mSeq, a_mSkip, a_mDrop, a_mRet, a_mRetN, a_mIfS, a_mSet, a_mSetL, a_mRaise, a_mNever, a_mFor, a_mLc, a_mIt, a_mFnL, a_mEnum, a_mSlc, a_mLRng, a_mLOf, a_oNone, a_oSome, a_asN, a_asT, a_mFrz, a_mApp, a_mExt, a_mPopAt, a_mPop, a_mSetM, a_mSetT, a_mSetTM, a_mAppM, a_ownAt, a_bnd, a_bnd_exc, a_bndS, a_bndS_exc, a_bndM, a_lift, a_asL_nil, a_asL_cons, a_gSub, a_gNeg, a_gAdd, a_gAddT, a_gAddL, a_gMod, a_gFdiv, a_gPow, a_gLt, a_gLe, a_gGt, a_gGe, a_truth_bl, a_truth_int, a_truth_lst, a_truth_tup, a_truth_non, a_blD, a_sq_tup, a_sq_lst, a_sq_scr, a_it_tup, a_it_lst, a_it_scr, a_qLen, a_qAt, a_qTuple, a_qSum, a_rng1, a_gLRng, a_fMin2, a_fMax2, a_fMin3, a_fAbs, a_fIntB, a_fIntI, a_isi_non, a_isi_bl, a_isi_int, a_isi_str, a_isi_tup, a_isi_lst, a_isN, a_notN, a_ofT, a_ofL, a_qTruth, a_mZip, a_qSumB, a_mPar, a_mAugI, a_mWhile, a_mPut, a_mParL, a_mPar3, a_gRevT, a_gRevL, a_mZip3, a_mIns, a_gTRng, a_mRetO, a_mRetL, a_mCallL, a_mTry, a_mAugS, a_mCount, a_gCount, a_wipe_nil, a_wipe_cons, a_callM, a_callN, List.map_cons, List.map_nil, List.length_cons, List.length_nil, List.cons_append, List.nil_append, Nat.reduceAdd, Nat.reduceSub, Nat.zero_add, List.replicate_succ, List.replicate_zero, List.getElem?_cons_zero, List.getElem?_cons_succ, List.set_cons_zero, List.set_cons_succ, List.append_nil, if_true, if_false, Bool.true_eq_false, Bool.false_eq_true, decide_true, decide_false, Bool.not_true, Bool.not_false, Nat.reduceLeDiff, Nat.reduceLT, Int.reduceLT, Int.reduceLE, Option.map_some, Option.map_none, Int.reduceToNat, true_and, and_true, Int.reduceNeg]
          rw [if_pos (show (-1000000 : Int) ≤ size ∧ (size : Int) ≤ 1000000 by omega)]
          simp only [a_mVar, a_mC, a_mUn, a_mBin, a_mIf, a_mAnd, a_mOr, a_mNot, a_mNil, a_mCons, a_mCallF, a_mFn, a_mTst, a_mVal, a_mChain, a_mCmp, a_mSq, a_mOwn, a_mQ, a_mQ2, a_m2Q, a_mLst, a_mDisp, a_mTup, a_mRepL, a_mSeq, a_mSkip, a_mDrop, a_mRet, a_mRetN, a_mIfS, a_mSet, a_mSetL, a_mRaise, a_mNever, a_mFor, a_mLc, a_mIt, a_mFnL, a_mEnum, a_mSlc, a_mLRng, a_mLOf, a_oNone, a_oSome, a_asN, a_asT, a_mFrz, a_mApp, a_mExt, a_mPopAt, a_mPop, a_mSetM, a_mSetT, a_mSetTM, a_mAppM, a_ownAt, a_bnd, a_bnd_exc, a_bndS, a_bndS_exc, a_bndM, a_lift, a_asL_nil, a_asL_cons, a_gSub, a_gNeg, a_gAdd, a_gAddT, a_gAddL, a_gMod, a_gFdiv, a_gPow, a_gLt, a_gLe, a_gGt, a_gGe, a_truth_bl, a_truth_int, a_truth_lst, a_truth_tup, a_truth_non, a_blD, a_sq_tup, a_sq_lst, a_sq_scr, a_it_tup, a_it_lst, a_it_scr, a_qLen, a_qAt, a_qTuple, a_qSum, a_rng1, a_gLRng, a_fMin2, a_fMax2, a_fMin3, a_fAbs, a_fIntB, a_fIntI, a_isi_non, a_isi_bl, a_isi_int, a_isi_str, a_isi_tup, a_isi_lst, a_isN, a_notN, a_ofT, a_ofL, a_qTruth, a_mZip, a_qSumB, a_mPar, a_mAugI, a_mWhile, a_mPut, a_mParL, a_mPar3, a_gRevT, a_gRevL, a_mZip3, a_mIns, a_gTRng, a_mRetO, a_mRetL, a_mCallL, a_mTry, a_mAugS, a_mCount, a_gCount, a_wipe_nil, a_wipe_cons, a_callM, a_callN, List.map_cons, List.map_nil, List.length_cons, List.length_nil, List.cons_append, List.nil_append, Nat.reduceAdd, Nat.reduceSub, Nat.zero_add, List.replicate_succ, List.replicate_zero, List.getElem?_cons_zero, List.getElem?_cons_succ, List.set_cons_zero, List.set_cons_succ, List.append_nil, if_true, if_false, Bool.true_eq_false, Bool.false_eq_true, decide_true, decide_false, Bool.not_true, Bool.not_false, Nat.reduceLeDiff, Nat.reduceLT, Int.reduceLT, Int.reduceLE, Option.map_some, Option.map_none, Int.reduceToNat, true_and, and_true, Int.reduceNeg, Int.toNat_natCast, rangeD_len, hz]
          rw [lc_grown (d := found[i]) (fun p => by
            simp only [a_mVar, a_mC, a_mUn, a_mBin, a_mIf, a_mAnd, a_mOr, a_mNot, a_mNil, a_mCons, a_mCallF, a_mFn, a_mTst, a_mVal, a_mChain, a_mCmp, a_mSq, a_mOwn, a_mQ, a_mQ2, a_m2Q, a_mLst, a_mDisp, a_mTup, a_mRepL, a_mSeq, a_mSkip, a_mDrop, a_mRet, a_mRetN, a_mIfS, a_mSet, a_mSetL, a_mRaise, a_mNever, a_mFor, a_mLc, a_mIt, a_mFnL, a_mEnum, a_mSlc, a_mLRng, a_mLOf, a_oNone, a_oSome, a_asN, a_asT, a_mFrz, a_mApp, a_mExt, a_mPopAt, a_mPop, a_mSetM, a_mSetT, a_mSetTM, a_mAppM, a_ownAt, a_bnd, a_bnd_exc, a_bndS, a_bndS_exc, a_bndM, a_lift, a_asL_nil, a_asL_cons, a_gSub, a_gNeg, a_gAdd, a_gAddT, a_gAddL, a_gMod, a_gFdiv, a_gPow, a_gLt, a_gLe, a_gGt, a_gGe, a_truth_bl, a_truth_int, a_truth_lst, a_truth_tup, a_truth_non, a_blD, a_sq_tup, a_sq_lst, a_sq_scr, a_it_tup, a_it_lst, a_it_scr, a_qLen, a_qAt, a_qTuple, a_qSum, a_rng1, a_gLRng, a_fMin2, a_fMax2, a_fMin3, a_fAbs, a_fIntB, a_fIntI, a_isi_non, a_isi_bl, a_isi_int, a_isi_str, a_isi_tup, a_isi_lst, a_isN, a_notN, a_ofT, a_ofL, a_qTruth, a_mZip, a_qSumB, a_mPar, a_mAugI, a_mWhile, a_mPut, a_mParL, a_mPar3, a_gRevT, a_gRevL, a_mZip3, a_mIns, a_gTRng, a_mRetO, a_mRetL, a_mCallL, a_mTry, a_mAugS, a_mCount, a_gCount, a_wipe_nil, a_wipe_cons, a_callM, a_callN, List.map_cons, List.map_nil, List.length_cons, List.length_nil, List.cons_append, List.nil_append, Nat.reduceAdd, Nat.reduceSub, Nat.zero_add, List.replicate_succ, List.replicate_zero, List.getElem?_cons_zero, List.getElem?_cons_succ, List.set_cons_zero, List.set_cons_succ, List.append_nil, if_true, if_false, Bool.true_eq_false, Bool.false_eq_true, decide_true, decide_false, Bool.not_true, Bool.not_false, Nat.reduceLeDiff, Nat.reduceLT, Int.reduceLT, Int.reduceLE, Option.map_some, Option.map_none, Int.reduceToNat, true_and, and_true, Int.reduceNeg]
            rw [b_notInI]
            rfl) (fun p => by
            simp only [a_mVar, a_mC, a_mUn, a_mBin, a_mIf, a_mAnd, a_mOr, a_mNot, a_mNil, a_mCons, a_mCallF, a_mFn, a_mTst, a_mVal, a_mChain, a_mCmp, a_mSq, a_mOwn, a_mQ, a_mQ2, a_m2Q, a_mLst, a_mDisp, a_mTup, a_mRepL, a_mSeq, a_mSkip, a_mDrop, a_mRet, a_mRetN, a_mIfS, a_mSet, a_mSetL, a_mRaise, a_mNever, a_mFor, a_mLc, a_mIt, a_mFnL, a_mEnum, a_mSlc, a_mLRng, a_mLOf, a_oNone, a_oSome, a_asN, a_asT, a_mFrz, a_mApp, a_mExt, a_mPopAt, a_mPop, a_mSetM, a_mSetT, a_mSetTM, a_mAppM, a_ownAt, a_bnd, a_bnd_exc, a_bndS, a_bndS_exc, a_bndM, a_lift, a_asL_nil, a_asL_cons, a_gSub, a_gNeg, a_gAdd, a_gAddT, a_gAddL, a_gMod, a_gFdiv, a_gPow, a_gLt, a_gLe, a_gGt, a_gGe, a_truth_bl, a_truth_int, a_truth_lst, a_truth_tup, a_truth_non, a_blD, a_sq_tup, a_sq_lst, a_sq_scr, a_it_tup, a_it_lst, a_it_scr, a_qLen, a_qAt, a_qTuple, a_qSum, a_rng1, a_gLRng, a_fMin2, a_fMax2, a_fMin3, a_fAbs, a_fIntB, a_fIntI, a_isi_non, a_isi_bl, a_isi_int, a_isi_str, a_isi_tup, a_isi_lst, a_isN, a_notN, a_ofT, a_ofL, a_qTruth, a_mZip, a_qSumB, a_mPar, a_mAugI, a_mWhile, a_mPut, a_mParL, a_mPar3, a_gRevT, a_gRevL, a_mZip3, a_mIns, a_gTRng, a_mRetO, a_mRetL, a_mCallL, a_mTry, a_mAugS, a_mCount, a_gCount, a_wipe_nil, a_wipe_cons, a_callM, a_callN, List.map_cons, List.map_nil, List.length_cons, List.length_nil, List.cons_append, List.nil_append, Nat.reduceAdd, Nat.reduceSub, Nat.zero_add, List.replicate_succ, List.replicate_zero, List.getElem?_cons_zero, List.getElem?_cons_succ, List.set_cons_zero, List.set_cons_succ, List.append_nil, if_true, if_false, Bool.true_eq_false, Bool.false_eq_true, decide_true, decide_false, Bool.not_true, Bool.not_false, Nat.reduceLeDiff, Nat.reduceLT, Int.reduceLT, Int.reduceLE, Option.map_some, Option.map_none, Int.reduceToNat, true_and, and_true, Int.reduceNeg, List.length_map]
            rw [if_pos (show found[i].length + (0 + 1) ≤ sizeLine by unfold sizeLine; omega)]
            simp only [a_mVar, a_mC, a_mUn, a_mBin, a_mIf, a_mAnd, a_mOr, a_mNot, a_mNil, a_mCons, a_mCallF, a_mFn, a_mTst, a_mVal, a_mChain, a_mCmp, a_mSq, a_mOwn, a_mQ, a_mQ2, a_m2Q, a_mLst, a_mDisp, a_mTup, a_mRepL, a_mSeq, a_mSkip, a_mDrop, a_mRet, a_mRetN, a_mIfS, a_mSet, a_mSetL, a_mRaise, a_mNever, a_mFor, a_mLc, a_mIt, a_mFnL, a_mEnum, a_mSlc, a_mLRng, a_mLOf, a_oNone, a_oSome, a_asN, a_asT, a_mFrz, a_mApp, a_mExt, a_mPopAt, a_mPop, a_mSetM, a_mSetT, a_mSetTM, a_mAppM, a_ownAt, a_bnd, a_bnd_exc, a_bndS, a_bndS_exc, a_bndM, a_lift, a_asL_nil, a_asL_cons, a_gSub, a_gNeg, a_gAdd, a_gAddT, a_gAddL, a_gMod, a_gFdiv, a_gPow, a_gLt, a_gLe, a_gGt, a_gGe, a_truth_bl, a_truth_int, a_truth_lst, a_truth_tup, a_truth_non, a_blD, a_sq_tup, a_sq_lst, a_sq_scr, a_it_tup, a_it_lst, a_it_scr, a_qLen, a_qAt, a_qTuple, a_qSum, a_rng1, a_gLRng, a_fMin2, a_fMax2, a_fMin3, a_fAbs, a_fIntB, a_fIntI, a_isi_non, a_isi_bl, a_isi_int, a_isi_str, a_isi_tup, a_isi_lst, a_isN, a_notN, a_ofT, a_ofL, a_qTruth, a_mZip, a_qSumB, a_mPar, a_mAugI, a_mWhile, a_mPut, a_mParL, a_mPar3, a_gRevT, a_gRevL, a_mZip3, a_mIns, a_gTRng, a_mRetO, a_mRetL, a_mCallL, a_mTry, a_mAugS, a_mCount, a_gCount, a_wipe_nil, a_wipe_cons, a_callM, a_callN, List.map_cons, List.map_nil, List.length_cons, List.length_nil, List.cons_append, List.nil_append, Nat.reduceAdd, Nat.reduceSub, Nat.zero_add, List.replicate_succ, List.replicate_zero, List.getElem?_cons_zero, List.getElem?_cons_succ, List.set_cons_zero, List.set_cons_succ, List.append_nil, if_true, if_false, Bool.true_eq_false, Bool.false_eq_true, decide_true, decide_false, Bool.not_true, Bool.not_false, Nat.reduceLeDiff, Nat.reduceLT, Int.reduceLT, Int.reduceLE, Option.map_some, Option.map_none, Int.reduceToNat, true_and, and_true, Int.reduceNeg]
            rw [tupI_snoc])]
          simp only [a_mVar, a_mC, a_mUn, a_mBin, a_mIf, a_mAnd, a_mOr, a_mNot, a_mNil, a_mCons, a_mCallF, a_mFn, a_mTst, a_mVal, a_mChain, a_mCmp, a_mSq, a_mOwn, a_mQ, a_mQ2, a_m2Q, a_mLst, a_mDisp, a_mTup, a_mRepL, a_mSeq, a_mSkip, a_mDrop, a_mRet, a_mRetN, a_mIfS, a_mSet, a_mSetL, a_mRaise, a_mNever, a_mFor, a_mLc, a_mIt, a_mFnL, a_mEnum, a_mSlc, a_mLRng, a_mLOf, a_oNone, a_oSome, a_asN, a_asT, a_mFrz, a_mApp, a_mExt, a_mPopAt, a_mPop, a_mSetM, a_mSetT, a_mSetTM, a_mAppM, a_ownAt, a_bnd, a_bnd_exc, a_bndS, a_bndS_exc, a_bndM, a_lift, a_asL_nil, a_asL_cons, a_gSub, a_gNeg, a_gAdd, a_gAddT, a_gAddL, a_gMod, a_gFdiv, a_gPow, a_gLt, a_gLe, a_gGt, a_gGe, a_truth_bl, a_truth_int, a_truth_lst, a_truth_tup, a_truth_non, a_blD, a_sq_tup, a_sq_lst, a_sq_scr, a_it_tup, a_it_lst, a_it_scr, a_qLen, a_qAt, a_qTuple, a_qSum, a_rng1, a_gLRng, a_fMin2, a_fMax2, a_fMin3, a_fAbs, a_fIntB, a_fIntI, a_isi_non, a_isi_bl, a_isi_int, a_isi_str, a_isi_tup, a_isi_lst, a_isN, a_notN, a_ofT, a_ofL, a_qTruth, a_mZip, a_qSumB, a_mPar, a_mAugI, a_mWhile, a_mPut, a_mParL, a_mPar3, a_gRevT, a_gRevL, a_mZip3, a_mIns, a_gTRng, a_mRetO, a_mRetL, a_mCallL, a_mTry, a_mAugS, a_mCount, a_gCount, a_wipe_nil, a_wipe_cons, a_callM, a_callN, List.map_cons, List.map_nil, List.length_cons, List.length_nil, List.cons_append, List.nil_append, Nat.reduceAdd, Nat.reduceSub, Nat.zero_add, List.replicate_succ, List.replicate_zero, List.getElem?_cons_zero, List.getElem?_cons_succ, List.set_cons_zero, List.set_cons_succ, List.append_nil, if_true, if_false, Bool.true_eq_false, Bool.false_eq_true, decide_true, decide_false, Bool.not_true, Bool.not_false, Nat.reduceLeDiff, Nat.reduceLT, Int.reduceLT, Int.reduceLE, Option.map_some, Option.map_none, Int.reduceToNat, true_and, and_true, Int.reduceNeg, List.length_map]
          have l1 := flat_len (grown size) size (grown_len size) (found.take i)
          have l2 := grown_len size found[i]
          have l3 : (found.take i).length ≤ found.length := by simp; omega
          rw [if_pos (show ((found.take i).flatMap (grown size)).length + (grown size found[i]).length ≤ sizeLine by
            have : size * (found.take i).length ≤ 7 * 117649 := Nat.mul_le_mul s2 (by omega)
            unfold sizeLine
            omega)]
          refine ⟨_, rfl, .val (tupI found[i]), ?_⟩
          rw [take_flat _ _ _ him, List.map_append])
      obtain ⟨env', e, z, rfl⟩ := key
      rw [e]
      simp only [a_mVar, a_mC, a_mUn, a_mBin, a_mIf, a_mAnd, a_mOr, a_mNot, a_mNil, a_mCons, a_mCallF, a_mFn, a_mTst, a_mVal, a_mChain, a_mCmp, a_mSq, a_mOwn, a_mQ, a_mQ2, a_m2Q, a_mLst, a_mDisp, a_mTup, a_mRepL, a_mSeq, a_mSkip, a_mDrop, a_mRet, a_mRetN, a_mIfS, a_mSet, a_mSetL, a_mRaise, a_mNever, a_mFor, a_mLc, a_mIt, a_mFnL, a_mEnum, a_mSlc, a_mLRng, a_mLOf, a_oNone, a_oSome, a_asN, a_asT, a_mFrz, a_mApp, a_mExt, a_mPopAt, a_mPop, a_mSetM, a_mSetT, a_mSetTM, a_mAppM, a_ownAt, a_bnd, a_bnd_exc, a_bndS, a_bndS_exc, a_bndM, a_lift, a_asL_nil, a_asL_cons, a_gSub, a_gNeg, a_gAdd, a_gAddT, a_gAddL, a_gMod, a_gFdiv, a_gPow, a_gLt, a_gLe, a_gGt, a_gGe, a_truth_bl, a_truth_int, a_truth_lst, a_truth_tup, a_truth_non, a_blD, a_sq_tup, a_sq_lst, a_sq_scr, a_it_tup, a_it_lst, a_it_scr, a_qLen, a_qAt, a_qTuple, a_qSum, a_rng1, a_gLRng, a_fMin2, a_fMax2, a_fMin3, a_fAbs, a_fIntB, a_fIntI, a_isi_non, a_isi_bl, a_isi_int, a_isi_str, a_isi_tup, a_isi_lst, a_isN, a_notN, a_ofT, a_ofL, a_qTruth, a_mZip, a_qSumB, a_mPar, a_mAugI, a_mWhile, a_mPut, a_mParL, a_mPar3, a_gRevT, a_gRevL, a_mZip3, a_mIns, a_gTRng, a_mRetO, a_mRetL, a_mCallL, a_mTry, a_mAugS, a_mCount, a_gCount, a_wipe_nil, a_wipe_cons, a_callM, a_callN, List.map_cons, List.map_nil, List.length_cons, List.length_nil, List.cons_append, List.nil_append, Nat.reduceAdd, Nat.reduceSub, Nat.zero_add, List.replicate_succ, List.replicate_zero, List.getElem?_cons_zero, List.getElem?_cons_succ, List.set_cons_zero, List.set_cons_succ, List.append_nil, if_true, if_false, Bool.true_eq_false, Bool.false_eq_true, decide_true, decide_false, Bool.not_true, Bool.not_false, Nat.reduceLeDiff, Nat.reduceLT, Int.reduceLT, Int.reduceLE, Option.map_some, Option.map_none, Int.reduceToNat, true_and, and_true, Int.reduceNeg, List.take_length]
      exact ⟨_, rfl, _, _, _, rfl⟩)
  obtain ⟨env', e, z3, z4, z5, rfl⟩ := key
  rw [rangeD_map, e]
  simp only [a_mVar, a_mC, a_mUn, a_mBin, a_mIf, a_mAnd, a_mOr, a_mNot, a_mNil, a_mCons, a_mCallF, a_mFn, a_mTst, a_mVal, a_mChain, a_mCmp, a_mSq, a_mOwn, a_mQ, a_mQ2, a_m2Q, a_mLst, a_mDisp, a_mTup, a_mRepL, a_mSeq, a_mSkip, a_mDrop, a_mRet, a_mRetN, a_mIfS, a_mSet, a_mSetL, a_mRaise, a_mNever, a_mFor, a_mLc, a_mIt, a_mFnL, a_mEnum, a_mSlc, a_mLRng, a_mLOf, a_oNone, a_oSome, a_asN, a_asT, a_mFrz, a_mApp, a_mExt, a_mPopAt, a_mPop, a_mSetM, a_mSetT, a_mSetTM, a_mAppM, a_ownAt, a_bnd, a_bnd_exc, a_bndS, a_bndS_exc, a_bndM, a_lift, a_asL_nil, a_asL_cons, a_gSub, a_gNeg, a_gAdd, a_gAddT, a_gAddL, a_gMod, a_gFdiv, a_gPow, a_gLt, a_gLe, a_gGt, a_gGe, a_truth_bl, a_truth_int, a_truth_lst, a_truth_tup, a_truth_non, a_blD, a_sq_tup, a_sq_lst, a_sq_scr, a_it_tup, a_it_lst, a_it_scr, a_qLen, a_qAt, a_qTuple, a_qSum, a_rng1, a_gLRng, a_fMin2, a_fMax2, a_fMin3, a_fAbs, a_fIntB, a_fIntI, a_isi_non, a_isi_bl, a_isi_int, a_isi_str, a_isi_tup, a_isi_lst, a_isN, a_notN, a_ofT, a_ofL, a_qTruth, a_mZip, a_qSumB, a_mPar, a_mAugI, a_mWhile, a_mPut, a_mParL, a_mPar3, a_gRevT, a_gRevL, a_mZip3, a_mIns, a_gTRng, a_mRetO, a_mRetL, a_mCallL, a_mTry, a_mAugS, a_mCount, a_gCount, a_wipe_nil, a_wipe_cons, a_callM, a_callN, List.map_cons, List.map_nil, List.length_cons, List.length_nil, List.cons_append, List.nil_append, Nat.reduceAdd, Nat.reduceSub, Nat.zero_add, List.replicate_succ, List.replicate_zero, List.getElem?_cons_zero, List.getElem?_cons_succ, List.set_cons_zero, List.set_cons_succ, List.append_nil, if_true, if_false, Bool.true_eq_false, Bool.false_eq_true, decide_true, decide_false, Bool.not_true, Bool.not_false, Nat.reduceLeDiff, Nat.reduceLT, Int.reduceLT, Int.reduceLE, Option.map_some, Option.map_none, Int.reduceToNat, true_and, and_true, Int.reduceNeg, List.length_range]

/-! ### all deals, rising -/
theorem tlex_app : ∀ {a b : List Int} (x y : List Int), a.length = b.length → tlex a b = true → tlex (a ++ x) (b ++ y) = true
  | [], [], _, _, _, h => by simp [tlex, lexB] at h
  | [], _ :: _, _, _, e, _ => by simp at e
  | _ :: _, [], _, _, e, _ => by simp at e
  | p :: a, q :: b, x, y, e, h => by
    rw [List.cons_append, List.cons_append]
    simp only [tlex, lexB] at h ⊢
    by_cases z : p = q
    · rw [if_pos z] at h ⊢
      exact tlex_app x y (by simpa using e) h
    · rw [if_neg z] at h ⊢
      exact h
theorem tlex_last (d : List Int) {p q : Int} (h : p < q) : tlex (d ++ [p]) (d ++ [q]) = true := by
  induction d with
  | nil =>
    simp only [tlex, List.nil_append, lexB]
    rw [if_neg (by omega), decide_eq_true h]
  | cons x d ih =>
    rw [List.cons_append, List.cons_append]
    simp only [tlex, lexB]
    rw [if_pos trivial]
    exact ih
theorem grown_up (s : Nat) (d : List Int) : (grown s d).Pairwise fun a b => tlex a b = true := by
  unfold grown
  rw [List.pairwise_map]
  refine ((List.pairwise_lt_range (n := s)).filter _).imp fun {a b} h => ?_
  exact tlex_last d (by omega)
theorem every_up (s : Nat) : ∀ n, (everyF s n).Pairwise fun a b => tlex a b = true
  | 0 => by simp [everyF]
  | n + 1 => by
    have key : ∀ l : List (List Int), (∀ d ∈ l, d.length = n) → l.Pairwise (fun a b => tlex a b = true) → (l.flatMap (grown s)).Pairwise fun a b => tlex a b = true := by
      intro l
      induction l with
      | nil => intro _ _; exact List.Pairwise.nil
      | cons a l ih =>
        intro hl h
        obtain ⟨h1, h2⟩ := List.pairwise_cons.mp h
        rw [List.flatMap_cons, List.pairwise_append]
        refine ⟨grown_up s a, ih (fun d hd => hl d (List.mem_cons_of_mem _ hd)) h2, fun x hx y hy => ?_⟩
        obtain ⟨b, hb, hy⟩ := List.mem_flatMap.mp hy
        unfold grown at hx hy
        obtain ⟨p, _, rfl⟩ := List.mem_map.mp hx
        obtain ⟨q, _, rfl⟩ := List.mem_map.mp hy
        exact tlex_app _ _ ((hl a List.mem_cons_self).trans (hl b (List.mem_cons_of_mem _ hb)).symm) (h1 b hb)
    exact key _ (fun d hd => (every_deal_ok s n d hd).len) (every_up s n)
theorem every_ne {s n : Nat} (h : n ≤ s) : everyF s n ≠ [] := by
  intro e
  have hd : Deal s n ((List.range n).map fun (i : Nat) => (i : Int)) := ⟨by simp, nodup_cast _ List.nodup_range, fun x hx => by
    simp at hx
    obtain ⟨i, hi, rfl⟩ := hx
    omega⟩
  have := every_all s n _ hd
  rw [e] at this
  cases this
/-! ### the first least of rising things -/
abbrev plex : Int × List Int → Int × List Int → Bool := lexP (fun i j => decide (i < j)) tlex
def stepM (T : List Int → Int) (b : Option (List Int)) (d : List Int) : Option (List Int) := match b with
  | none => some d
  | some e => if T d < T e then some d else some e
theorem first_min (T : List Int → Int) : ∀ (r : List (List Int)) (a : List Int), (∀ x ∈ r, tlex a x = true) → r.Pairwise (fun a b => tlex a b = true) → ∃ e, r.foldl (stepM T) (some a) = some e ∧ minA plex (T a, a) (r.map fun d => (T d, d)) = (T e, e)
  | [], a, _, _ => ⟨a, rfl, rfl⟩
  | d :: r, a, h1, h2 => by
    obtain ⟨g1, g2⟩ := List.pairwise_cons.mp h2
    have ad := h1 d List.mem_cons_self
    have e : plex (T d, d) (T a, a) = decide (T d < T a) := by
      simp only [plex, lexP]
      by_cases z : T d = T a
      · rw [if_pos z, show tlex d a = false from OE.tupI.asym ad, z]
        simp
      · rw [if_neg z]
    show ∃ e, r.foldl (stepM T) (if T d < T a then some d else some a) = some e ∧ minA plex (if plex (T d, d) (T a, a) = true then (T d, d) else (T a, a)) (r.map fun d => (T d, d)) = (T e, e)
    rw [e]
    by_cases z : T d < T a
    · rw [if_pos z, if_pos (decide_eq_true z)]
      exact first_min T r d g1 g2
    · rw [if_neg z, if_neg (by simpa using z)]
      exact first_min T r a (fun x hx => h1 x (List.mem_cons_of_mem _ hx)) g2
theorem Emb.pairT : Emb (fun p : Int × List Int => D.tup [.int p.1, tupI p.2]) (max 0 1 + 1) := Emb.int.pair Emb.tupI
theorem OE.pairT : OE (fun p : Int × List Int => D.tup [.int p.1, tupI p.2]) plex (max 0 1 + 1) := OE.int.pair OE.tupI

theorem e_all_deals {size many : Nat} (s2 : size ≤ 7) (h2 : many ≤ 6) (h : AH) : f__law_all_deals [.int size, .int many] h = .ok (.lst ((everyF size many).map tupI)) h := by
  have hz : size ≤ sizeLine := by unfold sizeLine; omega
  unfold f__law_all_deals m__law_all_deals
  simp only [a_mVar, a_mC, a_mUn, a_mBin, a_mIf, a_mAnd, a_mOr, a_mNot, a_mNil, a_mCons, a_mCallF, a_mFn, a_mTst, a_mVal, a_mChain, a_mCmp, a_mSq, a_mOwn, a_mQ, a_mQ2, a_m2Q, a_mLst, a_mDisp, a_mTup, a_mRepL, a_mSeq, a_mSkip, a_mDrop, a_mRet, a_mRetN, a_mIfS, a_mSet, a_mSetL, a_mRaise, a_mNever, a_mFor, a_mLc, a_mIt, a_mFnL, a_mEnum, a_mSlc, a_mLRng, a_mLOf, a_oNone, a_oSome, a_asN, a_asT, a_mFrz, a_mApp, a_mExt, a_mPopAt, a_mPop, a_mSetM, a_mSetT, a_mSetTM, a_mAppM, a_ownAt, a_bnd, a_bnd_exc, a_bndS, a_bndS_exc, a_bndM, a_lift, a_asL_nil, a_asL_cons, a_gSub, a_gNeg, a_gAdd, a_gAddT, a_gAddL, a_gMod, a_gFdiv, a_gPow, a_gLt, a_gLe, a_gGt, a_gGe, a_truth_bl, a_truth_int, a_truth_lst, a_truth_tup, a_truth_non, a_blD, a_sq_tup, a_sq_lst, a_sq_scr, a_it_tup, a_it_lst, a_it_scr, a_qLen, a_qAt, a_qTuple, a_qSum, a_rng1, a_gLRng, a_fMin2, a_fMax2, a_fMin3, a_fAbs, a_fIntB, a_fIntI, a_isi_non, a_isi_bl, a_isi_int, a_isi_str, a_isi_tup, a_isi_lst, a_isN, a_notN, a_ofT, a_ofL, a_qTruth, a_mZip, a_qSumB, a_mPar, a_mAugI, a_mWhile, a_mPut, a_mParL, a_mPar3, a_gRevT, a_gRevL, a_mZip3, a_mIns, a_gTRng, a_mRetO, a_mRetL, a_mCallL, a_mTry, a_mAugS, a_mCount, a_gCount, a_wipe_nil, a_wipe_cons, a_callM, a_callN, List.map_cons, List.map_nil, List.length_cons, List.length_nil, List.cons_append, List.nil_append, Nat.reduceAdd, Nat.reduceSub, Nat.zero_add, List.replicate_succ, List.replicate_zero, List.getElem?_cons_zero, List.getElem?_cons_succ, List.set_cons_zero, List.set_cons_succ, List.append_nil, if_true, if_false, Bool.true_eq_false, Bool.false_eq_true, decide_true, decide_false, Bool.not_true, Bool.not_false, Nat.reduceLeDiff, Nat.reduceLT, Int.reduceLT, Int.reduceLE, Option.map_some, Option.map_none, Int.reduceToNat, true_and, and_true, Int.reduceNeg]
  rw [if_pos (show (-1000000 : Int) ≤ many ∧ (many : Int) ≤ 1000000 by omega)]
  simp only [a_mVar, a_mC, a_mUn, a_mBin, a_mIf, a_mAnd, a_mOr, a_mNot, a_mNil, a_mCons, a_mCallF, a_mFn, a_mTst, a_mVal, a_mChain, a_mCmp, a_mSq, a_mOwn, a_mQ, a_mQ2, a_m2Q, a_mLst, a_mDisp, a_mTup, a_mRepL, a_mSeq, a_mSkip, a_mDrop, a_mRet, a_mRetN, a_mIfS, a_mSet, a_mSetL, a_mRaise, a_mNever, a_mFor, a_mLc, a_mIt, a_mFnL, a_mEnum, a_mSlc, a_mLRng, a_mLOf, a_oNone, a_oSome, a_asN, a_asT, a_mFrz, a_mApp, a_mExt, a_mPopAt, a_mPop, a_mSetM, a_mSetT, a_mSetTM, a_mAppM, a_ownAt, a_bnd, a_bnd_exc, a_bndS, a_bndS_exc, a_bndM, a_lift, a_asL_nil, a_asL_cons, a_gSub, a_gNeg, a_gAdd, a_gAddT, a_gAddL, a_gMod, a_gFdiv, a_gPow, a_gLt, a_gLe, a_gGt, a_gGe, a_truth_bl, a_truth_int, a_truth_lst, a_truth_tup, a_truth_non, a_blD, a_sq_tup, a_sq_lst, a_sq_scr, a_it_tup, a_it_lst, a_it_scr, a_qLen, a_qAt, a_qTuple, a_qSum, a_rng1, a_gLRng, a_fMin2, a_fMax2, a_fMin3, a_fAbs, a_fIntB, a_fIntI, a_isi_non, a_isi_bl, a_isi_int, a_isi_str, a_isi_tup, a_isi_lst, a_isN, a_notN, a_ofT, a_ofL, a_qTruth, a_mZip, a_qSumB, a_mPar, a_mAugI, a_mWhile, a_mPut, a_mParL, a_mPar3, a_gRevT, a_gRevL, a_mZip3, a_mIns, a_gTRng, a_mRetO, a_mRetL, a_mCallL, a_mTry, a_mAugS, a_mCount, a_gCount, a_wipe_nil, a_wipe_cons, a_callM, a_callN, List.map_cons, List.map_nil, List.length_cons, List.length_nil, List.cons_append, List.nil_append, Nat.reduceAdd, Nat.reduceSub, Nat.zero_add, List.replicate_succ, List.replicate_zero, List.getElem?_cons_zero, List.getElem?_cons_succ, List.set_cons_zero, List.set_cons_succ, List.append_nil, if_true, if_false, Bool.true_eq_false, Bool.false_eq_true, decide_true, decide_false, Bool.not_true, Bool.not_false, Nat.reduceLeDiff, Nat.reduceLT, Int.reduceLT, Int.reduceLE, Option.map_some, Option.map_none, Int.reduceToNat, true_and, and_true, Int.reduceNeg, Int.toNat_natCast]
  have key := loopF_all (h := h) (fun i : Nat => D.int (0 + i)) (fun k env => ∃ z3 z4 z5, env = [.val (.int size), .val (.int many), .val (.lst ((everyF size k).map tupI)), z3, z4, z5, .none]) (as := asN 3)
    (body := (mSeq (mSet 4 (mLst (mDisp mNil))) (mSeq (mFor (mIt seqItems (mVar 2)) (asN 5) (mSet 4 (mBin gAdd (mVar 4) (mLst (mLc (mFnL rng1 (mCons (mVar 0) mNil)) [6] (asN 6) (m2Q qNotIn (mVar 6) (mSq (mVar 5))) (mBin gAdd (mVar 5) (mTup (mCons (mVar 6) mNil)))))))) (mSet 2 (mVar 4)))))
    (List.range many) 0 [.val (.int size), .val (.int many), .val (.lst [.tup []]), .none, .none, .none, .none] ⟨_, _, _, rfl⟩ (by
      intro j x env hj J
      obtain ⟨hjm, rfl⟩ := List.getElem?_eq_some_iff.mp hj
      simp at hjm
      obtain ⟨z3, z4, z5, rfl⟩ := J
      refine ⟨_, rfl, ?_⟩
      rw [List.getElem_range, Nat.zero_add]
      simp only [a_mVar, a_mC, a_mUn, a_mBin, a_mIf, a_mAnd, a_mOr, a_mNot, a_mNil, a_mCons, a_mCallF, a_mFn, a_mTst, a_mVal, a_mChain, a_mCmp, a_mSq, a_mOwn, a_mQ, a_mQ2, a_m2Q, a_mLst, a_mDisp, a_mTup, a_mRepL, a_mSeq, a_mSkip, a_mDrop, a_mRet, a_mRetN, a_mIfS, a_mSet, a_mSetL, a_mRaise, a_mNever, a_mFor, a_mLc, a_mIt, a_mFnL, a_mEnum, a_mSlc, a_mLRng, a_mLOf, a_oNone, a_oSome, a_asN, a_asT, a_mFrz, a_mApp, a_mExt, a_mPopAt, a_mPop, a_mSetM, a_mSetT, a_mSetTM, a_mAppM, a_ownAt, a_bnd, a_bnd_exc, a_bndS, a_bndS_exc, a_bndM, a_lift, a_asL_nil, a_asL_cons, a_gSub, a_gNeg, a_gAdd, a_gAddT, a_gAddL, a_gMod, a_gFdiv, a_gPow, a_gLt, a_gLe, a_gGt, a_gGe, a_truth_bl, a_truth_int, a_truth_lst, a_truth_tup, a_truth_non, a_blD, a_sq_tup, a_sq_lst, a_sq_scr, a_it_tup, a_it_lst, a_it_scr, a_qLen, a_qAt, a_qTuple, a_qSum, a_rng1, a_gLRng, a_fMin2, a_fMax2, a_fMin3, a_fAbs, a_fIntB, a_fIntI, a_isi_non, a_isi_bl, a_isi_int, a_isi_str, a_isi_tup, a_isi_lst, a_isN, a_notN, a_ofT, a_ofL, a_qTruth, a_mZip, a_qSumB, a_mPar, a_mAugI, a_mWhile, a_mPut, a_mParL, a_mPar3, a_gRevT, a_gRevL, a_mZip3, a_mIns, a_gTRng, a_mRetO, a_mRetL, a_mCallL, a_mTry, a_mAugS, a_mCount, a_gCount, a_wipe_nil, a_wipe_cons, a_callM, a_callN, List.map_cons, List.map_nil, List.length_cons, List.length_nil, List.cons_append, List.nil_append, Nat.reduceAdd, Nat.reduceSub, Nat.zero_add, List.replicate_succ, List.replicate_zero, List.getElem?_cons_zero, List.getElem?_cons_succ, List.set_cons_zero, List.set_cons_succ, List.append_nil, if_true, if_false, Bool.true_eq_false, Bool.false_eq_true, decide_true, decide_false, Bool.not_true, Bool.not_false, Nat.reduceLeDiff, Nat.reduceLT, Int.reduceLT, Int.reduceLE, Option.map_some, Option.map_none, Int.reduceToNat, true_and, and_true, Int.reduceNeg]
      have hb := every_bound (n := j) s2 (by omega)
      have ok : ∀ d ∈ everyF size j, d.length = j := fun d hd => (every_deal_ok size j d hd).len
      have ef : everyF size (j + 1) = (everyF size j).flatMap (grown size) := rfl
      rw [ef]
      generalize everyF size j = found at hb ok
      have key := loopF_all (h := h) tupI (fun k env => ∃ z, env = [.val (.int size), .val (.int many), .val (.lst (found.map tupI)), .val (.int (0 + (j : Int))), .val (.lst (((found.take k).flatMap (grown size)).map tupI)), z, .none]) (as := asN 5)
        (body := (mSet 4 (mBin gAdd (mVar 4) (mLst (mLc (mFnL rng1 (mCons (mVar 0) mNil)) [6] (asN 6) (m2Q qNotIn (mVar 6) (mSq (mVar 5))) (mBin gAdd (mVar 5) (mTup (mCons (mVar 6) mNil))))))))
        found 0 [.val (.int size), .val (.int many), .val (.lst (found.map tupI)), .val (.int (0 + (j : Int))), .val (.lst []), z5, .none] ⟨_, rfl⟩ (by
          intro i d env hi J
          obtain ⟨him, rfl⟩ := List.getElem?_eq_some_iff.mp hi
          obtain ⟨z, rfl⟩ := J
          refine ⟨_, rfl, ?_⟩
          have ld := ok found[i] (List.getElem_mem him)
          simp only [a_mVar, a_mC, a_mUn, a_mBin, a_mIf, a_mAnd, a_mOr, a_mNot, a_mNil, a_mCons, a_mCallF, a_mFn, a_mTst, a_mVal, a_mChain, a_mCmp, a_mSq, a_mOwn, a_mQ, a_mQ2, a_m2Q, a_mLst, a_mDisp, a_mTup, a_mRepL, a_mSeq, a_mSkip, a_mDrop, a_mRet, a_mRetN, a_mIfS, a_mSet, a_mSetL, a_mRaise, a_mNever, a_mFor, a_mLc, a_mIt, a_mFnL, a_mEnum, a_mSlc, a_mLRng, a_mLOf, a_oNone, a_oSome, a_asN, a_asT, a_mFrz, a_mApp, a_mExt, a_mPopAt, a_mPop, a_mSetM, a_mSetT, a_mSetTM, a_mAppM, a_ownAt, a_bnd, a_bnd_exc, a_bndS, a_bndS_exc, a_bndM, a_lift, a_asL_nil, a_asL_cons, a_gSub, a_gNeg, a_gAdd, a_gAddT, a_gAddL, a_gMod, a_gFdiv, a_gPow, a_gLt, a_gLe, a_gGt, a_gGe, a_truth_bl, a_truth_int, a_truth_lst, a_truth_tup, a_truth_non, a_blD, a_sq_tup, a_sq_lst, a_sq_scr, a_it_tup, a_it_lst, a_it_scr, a_qLen, a_qAt, a_qTuple, a_qSum, a_rng1, a_gLRng, a_fMin2, a_fMax2, a_fMin3, a_fAbs, a_fIntB, a_fIntI, a_isi_non, a_isi_bl, a_isi_int, a_isi_str, a_isi_tup, a_isi_lst, a_isN, a_notN, a_ofT, a_ofL, a_qTruth, a_mZip, a_qSumB, a_mPar, a_mAugI, a_mWhile, a_mPut, a_mParL, a_mPar3, a_gRevT, a_gRevL, a_mZip3, a_mIns, a_gTRng, a_mRetO, a_mRetL, a_mCallL, a_mTry, a_mAugS, a_mCount, a_gCount, a_wipe_nil, a_wipe_cons, a_callM, a_callN, List.map_cons, List.map_nil, List.length_cons, List.length_nil, List.cons_append, List.nil_append, Nat.reduceAdd, Nat.reduceSub, Nat.zero_add, List.replicate_succ, List.replicate_zero, List.getElem?_cons_zero, List.getElem?_cons_succ, List.set_cons_zero, List.set_cons_succ, List.append_nil, if_true, if_false, Bool.true_eq_false, Bool.false_eq_true, decide_true, decide_false, Bool.not_true, Bool.not_false, Nat.reduceLeDiff, Nat.reduceLT, Int.reduceLT, Int.reduceLE, Option.map_some, Option.map_none, Int.reduceToNat, true_and, and_true, Int.reduceNeg]
          rw [if_pos (show (-1000000 : Int) ≤ size ∧ (size : Int) ≤ 1000000 by omega)]
          simp only [a_mVar, a_mC, a_mUn, a_mBin, a_mIf, a_mAnd, a_mOr, a_mNot, a_mNil, a_mCons, a_mCallF, a_mFn, a_mTst, a_mVal, a_mChain, a_mCmp, a_mSq, a_mOwn, a_mQ, a_mQ2, a_m2Q, a_mLst, a_mDisp, a_mTup, a_mRepL, a_mSeq, a_mSkip, a_mDrop, a_mRet, a_mRetN, a_mIfS, a_mSet, a_mSetL, a_mRaise, a_mNever, a_mFor, a_mLc, a_mIt, a_mFnL, a_mEnum, a_mSlc, a_mLRng, a_mLOf, a_oNone, a_oSome, a_asN, a_asT, a_mFrz, a_mApp, a_mExt, a_mPopAt, a_mPop, a_mSetM, a_mSetT, a_mSetTM, a_mAppM, a_ownAt, a_bnd, a_bnd_exc, a_bndS, a_bndS_exc, a_bndM, a_lift, a_asL_nil, a_asL_cons, a_gSub, a_gNeg, a_gAdd, a_gAddT, a_gAddL, a_gMod, a_gFdiv, a_gPow, a_gLt, a_gLe, a_gGt, a_gGe, a_truth_bl, a_truth_int, a_truth_lst, a_truth_tup, a_truth_non, a_blD, a_sq_tup, a_sq_lst, a_sq_scr, a_it_tup, a_it_lst, a_it_scr, a_qLen, a_qAt, a_qTuple, a_qSum, a_rng1, a_gLRng, a_fMin2, a_fMax2, a_fMin3, a_fAbs, a_fIntB, a_fIntI, a_isi_non, a_isi_bl, a_isi_int, a_isi_str, a_isi_tup, a_isi_lst, a_isN, a_notN, a_ofT, a_ofL, a_qTruth, a_mZip, a_qSumB, a_mPar, a_mAugI, a_mWhile, a_mPut, a_mParL, a_mPar3, a_gRevT, a_gRevL, a_mZip3, a_mIns, a_gTRng, a_mRetO, a_mRetL, a_mCallL, a_mTry, a_mAugS, a_mCount, a_gCount, a_wipe_nil, a_wipe_cons, a_callM, a_callN, List.map_cons, List.map_nil, List.length_cons, List.length_nil, List.cons_append, List.nil_append, Nat.reduceAdd, Nat.reduceSub, Nat.zero_add, List.replicate_succ, List.replicate_zero, List.getElem?_cons_zero, List.getElem?_cons_succ, List.set_cons_zero, List.set_cons_succ, List.append_nil, if_true, if_false, Bool.true_eq_false, Bool.false_eq_true, decide_true, decide_false, Bool.not_true, Bool.not_false, Nat.reduceLeDiff, Nat.reduceLT, Int.reduceLT, Int.reduceLE, Option.map_some, Option.map_none, Int.reduceToNat, true_and, and_true, Int.reduceNeg, Int.toNat_natCast, rangeD_len, hz]
          rw [lc_grown (d := found[i]) (fun p => by
            simp only [a_mVar, a_mC, a_mUn, a_mBin, a_mIf, a_mAnd, a_mOr, a_mNot, a_mNil, a_mCons, a_mCallF, a_mFn, a_mTst, a_mVal, a_mChain, a_mCmp, a_mSq, a_mOwn, a_mQ, a_mQ2, a_m2Q, a_mLst, a_mDisp, a_mTup, a_mRepL, a_mSeq, a_mSkip, a_mDrop, a_mRet, a_mRetN, a_mIfS, a_mSet, a_mSetL, a_mRaise, a_mNever, a_mFor, a_mLc, a_mIt, a_mFnL, a_mEnum, a_mSlc, a_mLRng, a_mLOf, a_oNone, a_oSome, a_asN, a_asT, a_mFrz, a_mApp, a_mExt, a_mPopAt, a_mPop, a_mSetM, a_mSetT, a_mSetTM, a_mAppM, a_ownAt, a_bnd, a_bnd_exc, a_bndS, a_bndS_exc, a_bndM, a_lift, a_asL_nil, a_asL_cons, a_gSub, a_gNeg, a_gAdd, a_gAddT, a_gAddL, a_gMod, a_gFdiv, a_gPow, a_gLt, a_gLe, a_gGt, a_gGe, a_truth_bl, a_truth_int, a_truth_lst, a_truth_tup, a_truth_non, a_blD, a_sq_tup, a_sq_lst, a_sq_scr, a_it_tup, a_it_lst, a_it_scr, a_qLen, a_qAt, a_qTuple, a_qSum, a_rng1, a_gLRng, a_fMin2, a_fMax2, a_fMin3, a_fAbs, a_fIntB, a_fIntI, a_isi_non, a_isi_bl, a_isi_int, a_isi_str, a_isi_tup, a_isi_lst, a_isN, a_notN, a_ofT, a_ofL, a_qTruth, a_mZip, a_qSumB, a_mPar, a_mAugI, a_mWhile, a_mPut, a_mParL, a_mPar3, a_gRevT, a_gRevL, a_mZip3, a_mIns, a_gTRng, a_mRetO, a_mRetL, a_mCallL, a_mTry, a_mAugS, a_mCount, a_gCount, a_wipe_nil, a_wipe_cons, a_callM, a_callN, List.map_cons, List.map_nil, List.length_cons, List.length_nil, List.cons_append, List.nil_append, Nat.reduceAdd, Nat.reduceSub, Nat.zero_add, List.replicate_succ, List.replicate_zero, List.getElem?_cons_zero, List.getElem?_cons_succ, List.set_cons_zero, List.set_cons_succ, List.append_nil, if_true, if_false, Bool.true_eq_false, Bool.false_eq_true, decide_true, decide_false, Bool.not_true, Bool.not_false, Nat.reduceLeDiff, Nat.reduceLT, Int.reduceLT, Int.reduceLE, Option.map_some, Option.map_none, Int.reduceToNat, true_and, and_true, Int.reduceNeg]
            rw [b_notInI]
            rfl) (fun p => by
            simp only [a_mVar, a_mC, a_mUn, a_mBin, a_mIf, a_mAnd, a_mOr, a_mNot, a_mNil, a_mCons, a_mCallF, a_mFn, a_mTst, a_mVal, a_mChain, a_mCmp, a_mSq, a_mOwn, a_mQ, a_mQ2, a_m2Q, a_mLst, a_mDisp, a_mTup, a_mRepL, a_mSeq, a_mSkip, a_mDrop, a_mRet, a_mRetN, a_mIfS, a_mSet, a_mSetL, a_mRaise, a_mNever, a_mFor, a_mLc, a_mIt, a_mFnL, a_mEnum, a_mSlc, a_mLRng, a_mLOf, a_oNone, a_oSome, a_asN, a_asT, a_mFrz, a_mApp, a_mExt, a_mPopAt, a_mPop, a_mSetM, a_mSetT, a_mSetTM, a_mAppM, a_ownAt, a_bnd, a_bnd_exc, a_bndS, a_bndS_exc, a_bndM, a_lift, a_asL_nil, a_asL_cons, a_gSub, a_gNeg, a_gAdd, a_gAddT, a_gAddL, a_gMod, a_gFdiv, a_gPow, a_gLt, a_gLe, a_gGt, a_gGe, a_truth_bl, a_truth_int, a_truth_lst, a_truth_tup, a_truth_non, a_blD, a_sq_tup, a_sq_lst, a_sq_scr, a_it_tup, a_it_lst, a_it_scr, a_qLen, a_qAt, a_qTuple, a_qSum, a_rng1, a_gLRng, a_fMin2, a_fMax2, a_fMin3, a_fAbs, a_fIntB, a_fIntI, a_isi_non, a_isi_bl, a_isi_int, a_isi_str, a_isi_tup, a_isi_lst, a_isN, a_notN, a_ofT, a_ofL, a_qTruth, a_mZip, a_qSumB, a_mPar, a_mAugI, a_mWhile, a_mPut, a_mParL, a_mPar3, a_gRevT, a_gRevL, a_mZip3, a_mIns, a_gTRng, a_mRetO, a_mRetL, a_mCallL, a_mTry, a_mAugS, a_mCount, a_gCount, a_wipe_nil, a_wipe_cons, a_callM, a_callN, List.map_cons, List.map_nil, List.length_cons, List.length_nil, List.cons_append, List.nil_append, Nat.reduceAdd, Nat.reduceSub, Nat.zero_add, List.replicate_succ, List.replicate_zero, List.getElem?_cons_zero, List.getElem?_cons_succ, List.set_cons_zero, List.set_cons_succ, List.append_nil, if_true, if_false, Bool.true_eq_false, Bool.false_eq_true, decide_true, decide_false, Bool.not_true, Bool.not_false, Nat.reduceLeDiff, Nat.reduceLT, Int.reduceLT, Int.reduceLE, Option.map_some, Option.map_none, Int.reduceToNat, true_and, and_true, Int.reduceNeg, List.length_map]
            rw [if_pos (show found[i].length + (0 + 1) ≤ sizeLine by unfold sizeLine; omega)]
            simp only [a_mVar, a_mC, a_mUn, a_mBin, a_mIf, a_mAnd, a_mOr, a_mNot, a_mNil, a_mCons, a_mCallF, a_mFn, a_mTst, a_mVal, a_mChain, a_mCmp, a_mSq, a_mOwn, a_mQ, a_mQ2, a_m2Q, a_mLst, a_mDisp, a_mTup, a_mRepL, a_mSeq, a_mSkip, a_mDrop, a_mRet, a_mRetN, a_mIfS, a_mSet, a_mSetL, a_mRaise, a_mNever, a_mFor, a_mLc, a_mIt, a_mFnL, a_mEnum, a_mSlc, a_mLRng, a_mLOf, a_oNone, a_oSome, a_asN, a_asT, a_mFrz, a_mApp, a_mExt, a_mPopAt, a_mPop, a_mSetM, a_mSetT, a_mSetTM, a_mAppM, a_ownAt, a_bnd, a_bnd_exc, a_bndS, a_bndS_exc, a_bndM, a_lift, a_asL_nil, a_asL_cons, a_gSub, a_gNeg, a_gAdd, a_gAddT, a_gAddL, a_gMod, a_gFdiv, a_gPow, a_gLt, a_gLe, a_gGt, a_gGe, a_truth_bl, a_truth_int, a_truth_lst, a_truth_tup, a_truth_non, a_blD, a_sq_tup, a_sq_lst, a_sq_scr, a_it_tup, a_it_lst, a_it_scr, a_qLen, a_qAt, a_qTuple, a_qSum, a_rng1, a_gLRng, a_fMin2, a_fMax2, a_fMin3, a_fAbs, a_fIntB, a_fIntI, a_isi_non, a_isi_bl, a_isi_int, a_isi_str, a_isi_tup, a_isi_lst, a_isN, a_notN, a_ofT, a_ofL, a_qTruth, a_mZip, a_qSumB, a_mPar, a_mAugI, a_mWhile, a_mPut, a_mParL, a_mPar3, a_gRevT, a_gRevL, a_mZip3, a_mIns, a_gTRng, a_mRetO, a_mRetL, a_mCallL, a_mTry, a_mAugS, a_mCount, a_gCount, a_wipe_nil, a_wipe_cons, a_callM, a_callN, List.map_cons, List.map_nil, List.length_cons, List.length_nil, List.cons_append, List.nil_append, Nat.reduceAdd, Nat.reduceSub, Nat.zero_add, List.replicate_succ, List.replicate_zero, List.getElem?_cons_zero, List.getElem?_cons_succ, List.set_cons_zero, List.set_cons_succ, List.append_nil, if_true, if_false, Bool.true_eq_false, Bool.false_eq_true, decide_true, decide_false, Bool.not_true, Bool.not_false, Nat.reduceLeDiff, Nat.reduceLT, Int.reduceLT, Int.reduceLE, Option.map_some, Option.map_none, Int.reduceToNat, true_and, and_true, Int.reduceNeg]
            rw [tupI_snoc])]
          simp only [a_mVar, a_mC, a_mUn, a_mBin, a_mIf, a_mAnd, a_mOr, a_mNot, a_mNil, a_mCons, a_mCallF, a_mFn, a_mTst, a_mVal, a_mChain, a_mCmp, a_mSq, a_mOwn, a_mQ, a_mQ2, a_m2Q, a_mLst, a_mDisp, a_mTup, a_mRepL, a_mSeq, a_mSkip, a_mDrop, a_mRet, a_mRetN, a_mIfS, a_mSet, a_mSetL, a_mRaise, a_mNever, a_mFor, a_mLc, a_mIt, a_mFnL, a_mEnum, a_mSlc, a_mLRng, a_mLOf, a_oNone, a_oSome, a_asN, a_asT, a_mFrz, a_mApp, a_mExt, a_mPopAt, a_mPop, a_mSetM, a_mSetT, a_mSetTM, a_mAppM, a_ownAt, a_bnd, a_bnd_exc, a_bndS, a_bndS_exc, a_bndM, a_lift, a_asL_nil, a_asL_cons, a_gSub, a_gNeg, a_gAdd, a_gAddT, a_gAddL, a_gMod, a_gFdiv, a_gPow, a_gLt, a_gLe, a_gGt, a_gGe, a_truth_bl, a_truth_int, a_truth_lst, a_truth_tup, a_truth_non, a_blD, a_sq_tup, a_sq_lst, a_sq_scr, a_it_tup, a_it_lst, a_it_scr, a_qLen, a_qAt, a_qTuple, a_qSum, a_rng1, a_gLRng, a_fMin2, a_fMax2, a_fMin3, a_fAbs, a_fIntB, a_fIntI, a_isi_non, a_isi_bl, a_isi_int, a_isi_str, a_isi_tup, a_isi_lst, a_isN, a_notN, a_ofT, a_ofL, a_qTruth, a_mZip, a_qSumB, a_mPar, a_mAugI, a_mWhile, a_mPut, a_mParL, a_mPar3, a_gRevT, a_gRevL, a_mZip3, a_mIns, a_gTRng, a_mRetO, a_mRetL, a_mCallL, a_mTry, a_mAugS, a_mCount, a_gCount, a_wipe_nil, a_wipe_cons, a_callM, a_callN, List.map_cons, List.map_nil, List.length_cons, List.length_nil, List.cons_append, List.nil_append, Nat.reduceAdd, Nat.reduceSub, Nat.zero_add, List.replicate_succ, List.replicate_zero, List.getElem?_cons_zero, List.getElem?_cons_succ, List.set_cons_zero, List.set_cons_succ, List.append_nil, if_true, if_false, Bool.true_eq_false, Bool.false_eq_true, decide_true, decide_false, Bool.not_true, Bool.not_false, Nat.reduceLeDiff, Nat.reduceLT, Int.reduceLT, Int.reduceLE, Option.map_some, Option.map_none, Int.reduceToNat, true_and, and_true, Int.reduceNeg, List.length_map]
          have l1 := flat_len (grown size) size (grown_len size) (found.take i)
          have l2 := grown_len size found[i]
          have l3 : (found.take i).length ≤ found.length := by simp; omega
          rw [if_pos (show ((found.take i).flatMap (grown size)).length + (grown size found[i]).length ≤ sizeLine by
            have : size * (found.take i).length ≤ 7 * 117649 := Nat.mul_le_mul s2 (by omega)
            unfold sizeLine
            omega)]
          simp only [a_mVar, a_mC, a_mUn, a_mBin, a_mIf, a_mAnd, a_mOr, a_mNot, a_mNil, a_mCons, a_mCallF, a_mFn, a_mTst, a_mVal, a_mChain, a_mCmp, a_mSq, a_mOwn, a_mQ, a_mQ2, a_m2Q, a_mLst, a_mDisp, a_mTup, a_mRepL, a_mSeq, a_mSkip, a_mDrop, a_mRet, a_mRetN, a_mIfS, a_mSet, a_mSetL, a_mRaise, a_mNever, a_mFor, a_mLc, a_mIt, a_mFnL, a_mEnum, a_mSlc, a_mLRng, a_mLOf, a_oNone, a_oSome, a_asN, a_asT, a_mFrz, a_mApp, a_mExt, a_mPopAt, a_mPop, a_mSetM, a_mSetT, a_mSetTM, a_mAppM, a_ownAt, a_bnd, a_bnd_exc, a_bndS, a_bndS_exc, a_bndM, a_lift, a_asL_nil, a_asL_cons, a_gSub, a_gNeg, a_gAdd, a_gAddT, a_gAddL, a_gMod, a_gFdiv, a_gPow, a_gLt, a_gLe, a_gGt, a_gGe, a_truth_bl, a_truth_int, a_truth_lst, a_truth_tup, a_truth_non, a_blD, a_sq_tup, a_sq_lst, a_sq_scr, a_it_tup, a_it_lst, a_it_scr, a_qLen, a_qAt, a_qTuple, a_qSum, a_rng1, a_gLRng, a_fMin2, a_fMax2, a_fMin3, a_fAbs, a_fIntB, a_fIntI, a_isi_non, a_isi_bl, a_isi_int, a_isi_str, a_isi_tup, a_isi_lst, a_isN, a_notN, a_ofT, a_ofL, a_qTruth, a_mZip, a_qSumB, a_mPar, a_mAugI, a_mWhile, a_mPut, a_mParL, a_mPar3, a_gRevT, a_gRevL, a_mZip3, a_mIns, a_gTRng, a_mRetO, a_mRetL, a_mCallL, a_mTry, a_mAugS, a_mCount, a_gCount, a_wipe_nil, a_wipe_cons, a_callM, a_callN, List.map_cons, List.map_nil, List.length_cons, List.length_nil, List.cons_append, List.nil_append, Nat.reduceAdd, Nat.reduceSub, Nat.zero_add, List.replicate_succ, List.replicate_zero, List.getElem?_cons_zero, List.getElem?_cons_succ, List.set_cons_zero, List.set_cons_succ, List.append_nil, if_true, if_false, Bool.true_eq_false, Bool.false_eq_true, decide_true, decide_false, Bool.not_true, Bool.not_false, Nat.reduceLeDiff, Nat.reduceLT, Int.reduceLT, Int.reduceLE, Option.map_some, Option.map_none, Int.reduceToNat, true_and, and_true, Int.reduceNeg]
          refine ⟨_, rfl, .val (tupI found[i]), ?_⟩
          rw [take_flat _ _ _ him, List.map_append])
      obtain ⟨env', e, z, rfl⟩ := key
      rw [e]
      simp only [a_mVar, a_mC, a_mUn, a_mBin, a_mIf, a_mAnd, a_mOr, a_mNot, a_mNil, a_mCons, a_mCallF, a_mFn, a_mTst, a_mVal, a_mChain, a_mCmp, a_mSq, a_mOwn, a_mQ, a_mQ2, a_m2Q, a_mLst, a_mDisp, a_mTup, a_mRepL, a_mSeq, a_mSkip, a_mDrop, a_mRet, a_mRetN, a_mIfS, a_mSet, a_mSetL, a_mRaise, a_mNever, a_mFor, a_mLc, a_mIt, a_mFnL, a_mEnum, a_mSlc, a_mLRng, a_mLOf, a_oNone, a_oSome, a_asN, a_asT, a_mFrz, a_mApp, a_mExt, a_mPopAt, a_mPop, a_mSetM, a_mSetT, a_mSetTM, a_mAppM, a_ownAt, a_bnd, a_bnd_exc, a_bndS, a_bndS_exc, a_bndM, a_lift, a_asL_nil, a_asL_cons, a_gSub, a_gNeg, a_gAdd, a_gAddT, a_gAddL, a_gMod, a_gFdiv, a_gPow, a_gLt, a_gLe, a_gGt, a_gGe, a_truth_bl, a_truth_int, a_truth_lst, a_truth_tup, a_truth_non, a_blD, a_sq_tup, a_sq_lst, a_sq_scr, a_it_tup, a_it_lst, a_it_scr, a_qLen, a_qAt, a_qTuple, a_qSum, a_rng1, a_gLRng, a_fMin2, a_fMax2, a_fMin3, a_fAbs, a_fIntB, a_fIntI, a_isi_non, a_isi_bl, a_isi_int, a_isi_str, a_isi_tup, a_isi_lst, a_isN, a_notN, a_ofT, a_ofL, a_qTruth, a_mZip, a_qSumB, a_mPar, a_mAugI, a_mWhile, a_mPut, a_mParL, a_mPar3, a_gRevT, a_gRevL, a_mZip3, a_mIns, a_gTRng, a_mRetO, a_mRetL, a_mCallL, a_mTry, a_mAugS, a_mCount, a_gCount, a_wipe_nil, a_wipe_cons, a_callM, a_callN, List.map_cons, List.map_nil, List.length_cons, List.length_nil, List.cons_append, List.nil_append, Nat.reduceAdd, Nat.reduceSub, Nat.zero_add, List.replicate_succ, List.replicate_zero, List.getElem?_cons_zero, List.getElem?_cons_succ, List.set_cons_zero, List.set_cons_succ, List.append_nil, if_true, if_false, Bool.true_eq_false, Bool.false_eq_true, decide_true, decide_false, Bool.not_true, Bool.not_false, Nat.reduceLeDiff, Nat.reduceLT, Int.reduceLT, Int.reduceLE, Option.map_some, Option.map_none, Int.reduceToNat, true_and, and_true, Int.reduceNeg, List.take_length]
      exact ⟨_, rfl, _, _, _, rfl⟩)
  obtain ⟨env', e, z3, z4, z5, rfl⟩ := key
  rw [rangeD_map, e]
  simp only [a_mVar, a_mC, a_mUn, a_mBin, a_mIf, a_mAnd, a_mOr, a_mNot, a_mNil, a_mCons, a_mCallF, a_mFn, a_mTst, a_mVal, a_mChain, a_mCmp, a_mSq, a_mOwn, a_mQ, a_mQ2, a_m2Q, a_mLst, a_mDisp, a_mTup, a_mRepL, a_mSeq, a_mSkip, a_mDrop, a_mRet, a_mRetN, a_mIfS, a_mSet, a_mSetL, a_mRaise, a_mNever, a_mFor, a_mLc, a_mIt, a_mFnL, a_mEnum, a_mSlc, a_mLRng, a_mLOf, a_oNone, a_oSome, a_asN, a_asT, a_mFrz, a_mApp, a_mExt, a_mPopAt, a_mPop, a_mSetM, a_mSetT, a_mSetTM, a_mAppM, a_ownAt, a_bnd, a_bnd_exc, a_bndS, a_bndS_exc, a_bndM, a_lift, a_asL_nil, a_asL_cons, a_gSub, a_gNeg, a_gAdd, a_gAddT, a_gAddL, a_gMod, a_gFdiv, a_gPow, a_gLt, a_gLe, a_gGt, a_gGe, a_truth_bl, a_truth_int, a_truth_lst, a_truth_tup, a_truth_non, a_blD, a_sq_tup, a_sq_lst, a_sq_scr, a_it_tup, a_it_lst, a_it_scr, a_qLen, a_qAt, a_qTuple, a_qSum, a_rng1, a_gLRng, a_fMin2, a_fMax2, a_fMin3, a_fAbs, a_fIntB, a_fIntI, a_isi_non, a_isi_bl, a_isi_int, a_isi_str, a_isi_tup, a_isi_lst, a_isN, a_notN, a_ofT, a_ofL, a_qTruth, a_mZip, a_qSumB, a_mPar, a_mAugI, a_mWhile, a_mPut, a_mParL, a_mPar3, a_gRevT, a_gRevL, a_mZip3, a_mIns, a_gTRng, a_mRetO, a_mRetL, a_mCallL, a_mTry, a_mAugS, a_mCount, a_gCount, a_wipe_nil, a_wipe_cons, a_callM, a_callN, List.map_cons, List.map_nil, List.length_cons, List.length_nil, List.cons_append, List.nil_append, Nat.reduceAdd, Nat.reduceSub, Nat.zero_add, List.replicate_succ, List.replicate_zero, List.getElem?_cons_zero, List.getElem?_cons_succ, List.set_cons_zero, List.set_cons_succ, List.append_nil, if_true, if_false, Bool.true_eq_false, Bool.false_eq_true, decide_true, decide_false, Bool.not_true, Bool.not_false, Nat.reduceLeDiff, Nat.reduceLT, Int.reduceLT, Int.reduceLE, Option.map_some, Option.map_none, Int.reduceToNat, true_and, and_true, Int.reduceNeg, List.length_range]

/-! ### the shorter way -/
def wayF (size : Nat) (a b : Int) : Int := if 2 * ((b - a) % (size : Int)) ≤ size then (b - a) % size else (b - a) % size - size
theorem way_mod {size : Nat} (s1 : 2 ≤ size) (x : Int) : 0 ≤ x % (size : Int) ∧ x % (size : Int) < size := ⟨Int.emod_nonneg _ (by omega), Int.emod_lt_of_pos _ (by omega)⟩
theorem e_way {size : Nat} (s1 : 2 ≤ size) (a b : Int) (h : AH) : f_short_way [.int size, .int a, .int b] h = .ok (.int (wayF size a b)) h := by
  unfold f_short_way m_short_way wayF
  simp only [a_mVar, a_mC, a_mUn, a_mBin, a_mIf, a_mAnd, a_mOr, a_mNot, a_mNil, a_mCons, a_mCallF, a_mFn, a_mTst, a_mVal, a_mChain, a_mCmp, a_mSq, a_mOwn, a_mQ, a_mQ2, a_m2Q, a_mLst, a_mDisp, a_mTup, a_mRepL, a_mSeq, a_mSkip, a_mDrop, a_mRet, a_mRetN, a_mIfS, a_mSet, a_mSetL, a_mRaise, a_mNever, a_mFor, a_mLc, a_mIt, a_mFnL, a_mEnum, a_mSlc, a_mLRng, a_mLOf, a_oNone, a_oSome, a_asN, a_asT, a_mFrz, a_mApp, a_mExt, a_mPopAt, a_mPop, a_mSetM, a_mSetT, a_mSetTM, a_mAppM, a_ownAt, a_bnd, a_bnd_exc, a_bndS, a_bndS_exc, a_bndM, a_lift, a_asL_nil, a_asL_cons, a_gSub, a_gNeg, a_gAdd, a_gAddT, a_gAddL, a_gMod, a_gFdiv, a_gPow, a_gLt, a_gLe, a_gGt, a_gGe, a_truth_bl, a_truth_int, a_truth_lst, a_truth_tup, a_truth_non, a_blD, a_sq_tup, a_sq_lst, a_sq_scr, a_it_tup, a_it_lst, a_it_scr, a_qLen, a_qAt, a_qTuple, a_qSum, a_rng1, a_gLRng, a_fMin2, a_fMax2, a_fMin3, a_fAbs, a_fIntB, a_fIntI, a_isi_non, a_isi_bl, a_isi_int, a_isi_str, a_isi_tup, a_isi_lst, a_isN, a_notN, a_ofT, a_ofL, a_qTruth, a_mZip, a_qSumB, a_mPar, a_mAugI, a_mWhile, a_mPut, a_mParL, a_mPar3, a_gRevT, a_gRevL, a_mZip3, a_mIns, a_gTRng, a_mRetO, a_mRetL, a_mCallL, a_mTry, a_mAugS, a_mCount, a_gCount, a_wipe_nil, a_wipe_cons, a_callM, a_callN, List.map_cons, List.map_nil, List.length_cons, List.length_nil, List.cons_append, List.nil_append, Nat.reduceAdd, Nat.reduceSub, Nat.zero_add, List.replicate_succ, List.replicate_zero, List.getElem?_cons_zero, List.getElem?_cons_succ, List.set_cons_zero, List.set_cons_succ, List.append_nil, if_true, if_false, Bool.true_eq_false, Bool.false_eq_true, decide_true, decide_false, Bool.not_true, Bool.not_false, Nat.reduceLeDiff, Nat.reduceLT, Int.reduceLT, Int.reduceLE, Option.map_some, Option.map_none, Int.reduceToNat, true_and, and_true, Int.reduceNeg, decide_eq_true (show (0 : Int) < size by omega), b_mul 2 ((b - a) % (size : Int)) (.inl (by omega))]
  by_cases z : 2 * ((b - a) % (size : Int)) ≤ size
  · simp only [a_mVar, a_mC, a_mUn, a_mBin, a_mIf, a_mAnd, a_mOr, a_mNot, a_mNil, a_mCons, a_mCallF, a_mFn, a_mTst, a_mVal, a_mChain, a_mCmp, a_mSq, a_mOwn, a_mQ, a_mQ2, a_m2Q, a_mLst, a_mDisp, a_mTup, a_mRepL, a_mSeq, a_mSkip, a_mDrop, a_mRet, a_mRetN, a_mIfS, a_mSet, a_mSetL, a_mRaise, a_mNever, a_mFor, a_mLc, a_mIt, a_mFnL, a_mEnum, a_mSlc, a_mLRng, a_mLOf, a_oNone, a_oSome, a_asN, a_asT, a_mFrz, a_mApp, a_mExt, a_mPopAt, a_mPop, a_mSetM, a_mSetT, a_mSetTM, a_mAppM, a_ownAt, a_bnd, a_bnd_exc, a_bndS, a_bndS_exc, a_bndM, a_lift, a_asL_nil, a_asL_cons, a_gSub, a_gNeg, a_gAdd, a_gAddT, a_gAddL, a_gMod, a_gFdiv, a_gPow, a_gLt, a_gLe, a_gGt, a_gGe, a_truth_bl, a_truth_int, a_truth_lst, a_truth_tup, a_truth_non, a_blD, a_sq_tup, a_sq_lst, a_sq_scr, a_it_tup, a_it_lst, a_it_scr, a_qLen, a_qAt, a_qTuple, a_qSum, a_rng1, a_gLRng, a_fMin2, a_fMax2, a_fMin3, a_fAbs, a_fIntB, a_fIntI, a_isi_non, a_isi_bl, a_isi_int, a_isi_str, a_isi_tup, a_isi_lst, a_isN, a_notN, a_ofT, a_ofL, a_qTruth, a_mZip, a_qSumB, a_mPar, a_mAugI, a_mWhile, a_mPut, a_mParL, a_mPar3, a_gRevT, a_gRevL, a_mZip3, a_mIns, a_gTRng, a_mRetO, a_mRetL, a_mCallL, a_mTry, a_mAugS, a_mCount, a_gCount, a_wipe_nil, a_wipe_cons, a_callM, a_callN, List.map_cons, List.map_nil, List.length_cons, List.length_nil, List.cons_append, List.nil_append, Nat.reduceAdd, Nat.reduceSub, Nat.zero_add, List.replicate_succ, List.replicate_zero, List.getElem?_cons_zero, List.getElem?_cons_succ, List.set_cons_zero, List.set_cons_succ, List.append_nil, if_true, if_false, Bool.true_eq_false, Bool.false_eq_true, decide_true, decide_false, Bool.not_true, Bool.not_false, Nat.reduceLeDiff, Nat.reduceLT, Int.reduceLT, Int.reduceLE, Option.map_some, Option.map_none, Int.reduceToNat, true_and, and_true, Int.reduceNeg, z]
  · simp only [a_mVar, a_mC, a_mUn, a_mBin, a_mIf, a_mAnd, a_mOr, a_mNot, a_mNil, a_mCons, a_mCallF, a_mFn, a_mTst, a_mVal, a_mChain, a_mCmp, a_mSq, a_mOwn, a_mQ, a_mQ2, a_m2Q, a_mLst, a_mDisp, a_mTup, a_mRepL, a_mSeq, a_mSkip, a_mDrop, a_mRet, a_mRetN, a_mIfS, a_mSet, a_mSetL, a_mRaise, a_mNever, a_mFor, a_mLc, a_mIt, a_mFnL, a_mEnum, a_mSlc, a_mLRng, a_mLOf, a_oNone, a_oSome, a_asN, a_asT, a_mFrz, a_mApp, a_mExt, a_mPopAt, a_mPop, a_mSetM, a_mSetT, a_mSetTM, a_mAppM, a_ownAt, a_bnd, a_bnd_exc, a_bndS, a_bndS_exc, a_bndM, a_lift, a_asL_nil, a_asL_cons, a_gSub, a_gNeg, a_gAdd, a_gAddT, a_gAddL, a_gMod, a_gFdiv, a_gPow, a_gLt, a_gLe, a_gGt, a_gGe, a_truth_bl, a_truth_int, a_truth_lst, a_truth_tup, a_truth_non, a_blD, a_sq_tup, a_sq_lst, a_sq_scr, a_it_tup, a_it_lst, a_it_scr, a_qLen, a_qAt, a_qTuple, a_qSum, a_rng1, a_gLRng, a_fMin2, a_fMax2, a_fMin3, a_fAbs, a_fIntB, a_fIntI, a_isi_non, a_isi_bl, a_isi_int, a_isi_str, a_isi_tup, a_isi_lst, a_isN, a_notN, a_ofT, a_ofL, a_qTruth, a_mZip, a_qSumB, a_mPar, a_mAugI, a_mWhile, a_mPut, a_mParL, a_mPar3, a_gRevT, a_gRevL, a_mZip3, a_mIns, a_gTRng, a_mRetO, a_mRetL, a_mCallL, a_mTry, a_mAugS, a_mCount, a_gCount, a_wipe_nil, a_wipe_cons, a_callM, a_callN, List.map_cons, List.map_nil, List.length_cons, List.length_nil, List.cons_append, List.nil_append, Nat.reduceAdd, Nat.reduceSub, Nat.zero_add, List.replicate_succ, List.replicate_zero, List.getElem?_cons_zero, List.getElem?_cons_succ, List.set_cons_zero, List.set_cons_succ, List.append_nil, if_true, if_false, Bool.true_eq_false, Bool.false_eq_true, decide_true, decide_false, Bool.not_true, Bool.not_false, Nat.reduceLeDiff, Nat.reduceLT, Int.reduceLT, Int.reduceLE, Option.map_some, Option.map_none, Int.reduceToNat, true_and, and_true, Int.reduceNeg, z]
theorem way_bound {size : Nat} (s1 : 2 ≤ size) (a b : Int) : -(size : Int) ≤ wayF size a b ∧ wayF size a b ≤ size := by
  have := way_mod s1 (b - a)
  unfold wayF
  split <;> omega

theorem turn_at {size : Nat} {a b on : Int} (ha : 0 ≤ a ∧ a < size) (hb : 0 ≤ b ∧ b < size) (ho : 0 ≤ on ∧ on ≤ (b - a) % size) : (a + on) % size = b ↔ on = (b - a) % size := by
  by_cases z : a ≤ b
  · have e : (b - a) % (size : Int) = b - a := Int.emod_eq_of_lt (by omega) (by omega)
    rw [e] at ho ⊢
    rw [Int.emod_eq_of_lt (by omega) (by omega)]
    omega
  · have e : (b - a) % (size : Int) = b - a + size := by
      rw [← Int.add_emod_right, Int.emod_eq_of_lt (by omega) (by omega)]
    rw [e] at ho ⊢
    by_cases q : a + on < size
    · rw [Int.emod_eq_of_lt (by omega) q]
      omega
    · have e2 : (a + on) % (size : Int) = a + on - size := by
        rw [← Int.sub_emod_right, Int.emod_eq_of_lt (by omega) (by omega)]
      rw [e2]
      omega
theorem e_turn {size : Nat} (s1 : 2 ≤ size) (s2 : size ≤ 7) {a b : Int} (ha : 0 ≤ a ∧ a < size) (hb : 0 ≤ b ∧ b < size) (h : AH) : f__law_turn [.int size, .int a, .int b] h = .ok (.int (wayF size a b)) h := by
  have hk := way_mod s1 (b - a)
  unfold f__law_turn m__law_turn
  simp only [a_mVar, a_mC, a_mUn, a_mBin, a_mIf, a_mAnd, a_mOr, a_mNot, a_mNil, a_mCons, a_mCallF, a_mFn, a_mTst, a_mVal, a_mChain, a_mCmp, a_mSq, a_mOwn, a_mQ, a_mQ2, a_m2Q, a_mLst, a_mDisp, a_mTup, a_mRepL, a_mSeq, a_mSkip, a_mDrop, a_mRet, a_mRetN, a_mIfS, a_mSet, a_mSetL, a_mRaise, a_mNever, a_mFor, a_mLc, a_mIt, a_mFnL, a_mEnum, a_mSlc, a_mLRng, a_mLOf, a_oNone, a_oSome, a_asN, a_asT, a_mFrz, a_mApp, a_mExt, a_mPopAt, a_mPop, a_mSetM, a_mSetT, a_mSetTM, a_mAppM, a_ownAt, a_bnd, a_bnd_exc, a_bndS, a_bndS_exc, a_bndM, a_lift, a_asL_nil, a_asL_cons, a_gSub, a_gNeg, a_gAdd, a_gAddT, a_gAddL, a_gMod, a_gFdiv, a_gPow, a_gLt, a_gLe, a_gGt, a_gGe, a_truth_bl, a_truth_int, a_truth_lst, a_truth_tup, a_truth_non, a_blD, a_sq_tup, a_sq_lst, a_sq_scr, a_it_tup, a_it_lst, a_it_scr, a_qLen, a_qAt, a_qTuple, a_qSum, a_rng1, a_gLRng, a_fMin2, a_fMax2, a_fMin3, a_fAbs, a_fIntB, a_fIntI, a_isi_non, a_isi_bl, a_isi_int, a_isi_str, a_isi_tup, a_isi_lst, a_isN, a_notN, a_ofT, a_ofL, a_qTruth, a_mZip, a_qSumB, a_mPar, a_mAugI, a_mWhile, a_mPut, a_mParL, a_mPar3, a_gRevT, a_gRevL, a_mZip3, a_mIns, a_gTRng, a_mRetO, a_mRetL, a_mCallL, a_mTry, a_mAugS, a_mCount, a_gCount, a_wipe_nil, a_wipe_cons, a_callM, a_callN, List.map_cons, List.map_nil, List.length_cons, List.length_nil, List.cons_append, List.nil_append, Nat.reduceAdd, Nat.reduceSub, Nat.zero_add, List.replicate_succ, List.replicate_zero, List.getElem?_cons_zero, List.getElem?_cons_succ, List.set_cons_zero, List.set_cons_succ, List.append_nil, if_true, if_false, Bool.true_eq_false, Bool.false_eq_true, decide_true, decide_false, Bool.not_true, Bool.not_false, Nat.reduceLeDiff, Nat.reduceLT, Int.reduceLT, Int.reduceLE, Option.map_some, Option.map_none, Int.reduceToNat, true_and, and_true, Int.reduceNeg]
  have key := loopW_meas (h := h) (t := (mCmp gNe (mBin gMod (mBin gAdd (mVar 1) (mVar 3)) (mVar 0)) (mVar 2))) (body := (mAugI 3 (fun i j => i + j) (mC (.int 1))))
    (fun env => ∃ on : Int, env = [.val (.int size), .val (.int a), .val (.int b), .val (.int on)] ∧ 0 ≤ on ∧ on ≤ (b - a) % size)
    (fun env => match (env[3]? : Option Sl) with | some (Sl.val (D.int on)) => ((b - a) % size - on).toNat | _ => 0)
    (by
      rintro env ⟨on, rfl, o1, o2⟩
      have ta := turn_at ha hb ⟨o1, o2⟩
      simp only [a_mVar, a_mC, a_mUn, a_mBin, a_mIf, a_mAnd, a_mOr, a_mNot, a_mNil, a_mCons, a_mCallF, a_mFn, a_mTst, a_mVal, a_mChain, a_mCmp, a_mSq, a_mOwn, a_mQ, a_mQ2, a_m2Q, a_mLst, a_mDisp, a_mTup, a_mRepL, a_mSeq, a_mSkip, a_mDrop, a_mRet, a_mRetN, a_mIfS, a_mSet, a_mSetL, a_mRaise, a_mNever, a_mFor, a_mLc, a_mIt, a_mFnL, a_mEnum, a_mSlc, a_mLRng, a_mLOf, a_oNone, a_oSome, a_asN, a_asT, a_mFrz, a_mApp, a_mExt, a_mPopAt, a_mPop, a_mSetM, a_mSetT, a_mSetTM, a_mAppM, a_ownAt, a_bnd, a_bnd_exc, a_bndS, a_bndS_exc, a_bndM, a_lift, a_asL_nil, a_asL_cons, a_gSub, a_gNeg, a_gAdd, a_gAddT, a_gAddL, a_gMod, a_gFdiv, a_gPow, a_gLt, a_gLe, a_gGt, a_gGe, a_truth_bl, a_truth_int, a_truth_lst, a_truth_tup, a_truth_non, a_blD, a_sq_tup, a_sq_lst, a_sq_scr, a_it_tup, a_it_lst, a_it_scr, a_qLen, a_qAt, a_qTuple, a_qSum, a_rng1, a_gLRng, a_fMin2, a_fMax2, a_fMin3, a_fAbs, a_fIntB, a_fIntI, a_isi_non, a_isi_bl, a_isi_int, a_isi_str, a_isi_tup, a_isi_lst, a_isN, a_notN, a_ofT, a_ofL, a_qTruth, a_mZip, a_qSumB, a_mPar, a_mAugI, a_mWhile, a_mPut, a_mParL, a_mPar3, a_gRevT, a_gRevL, a_mZip3, a_mIns, a_gTRng, a_mRetO, a_mRetL, a_mCallL, a_mTry, a_mAugS, a_mCount, a_gCount, a_wipe_nil, a_wipe_cons, a_callM, a_callN, List.map_cons, List.map_nil, List.length_cons, List.length_nil, List.cons_append, List.nil_append, Nat.reduceAdd, Nat.reduceSub, Nat.zero_add, List.replicate_succ, List.replicate_zero, List.getElem?_cons_zero, List.getElem?_cons_succ, List.set_cons_zero, List.set_cons_succ, List.append_nil, if_true, if_false, Bool.true_eq_false, Bool.false_eq_true, decide_true, decide_false, Bool.not_true, Bool.not_false, Nat.reduceLeDiff, Nat.reduceLT, Int.reduceLT, Int.reduceLE, Option.map_some, Option.map_none, Int.reduceToNat, true_and, and_true, Int.reduceNeg, decide_eq_true (show (0 : Int) < size by omega), b_neI]
      by_cases z : on = (b - a) % size
      · left
        rw [decide_eq_true (ta.mpr z)]
        rfl
      · right
        rw [decide_eq_false fun q => z (ta.mp q)]
        refine ⟨rfl, _, rfl, ⟨on + 1, rfl, by omega, by omega⟩, ?_⟩
        show ((b - a) % (size : Int) - (on + 1)).toNat < ((b - a) % (size : Int) - on).toNat
        omega)
    1000 [.val (.int size), .val (.int a), .val (.int b), .val (.int 0)] (by show ((b - a) % (size : Int) - 0).toNat < 1000; omega) ⟨0, rfl, by omega, hk.1⟩
  obtain ⟨env', e, ⟨on, rfl, o1, o2⟩, ef⟩ := key
  rw [e]
  have ta := turn_at ha hb ⟨o1, o2⟩
  simp only [a_mVar, a_mC, a_mUn, a_mBin, a_mIf, a_mAnd, a_mOr, a_mNot, a_mNil, a_mCons, a_mCallF, a_mFn, a_mTst, a_mVal, a_mChain, a_mCmp, a_mSq, a_mOwn, a_mQ, a_mQ2, a_m2Q, a_mLst, a_mDisp, a_mTup, a_mRepL, a_mSeq, a_mSkip, a_mDrop, a_mRet, a_mRetN, a_mIfS, a_mSet, a_mSetL, a_mRaise, a_mNever, a_mFor, a_mLc, a_mIt, a_mFnL, a_mEnum, a_mSlc, a_mLRng, a_mLOf, a_oNone, a_oSome, a_asN, a_asT, a_mFrz, a_mApp, a_mExt, a_mPopAt, a_mPop, a_mSetM, a_mSetT, a_mSetTM, a_mAppM, a_ownAt, a_bnd, a_bnd_exc, a_bndS, a_bndS_exc, a_bndM, a_lift, a_asL_nil, a_asL_cons, a_gSub, a_gNeg, a_gAdd, a_gAddT, a_gAddL, a_gMod, a_gFdiv, a_gPow, a_gLt, a_gLe, a_gGt, a_gGe, a_truth_bl, a_truth_int, a_truth_lst, a_truth_tup, a_truth_non, a_blD, a_sq_tup, a_sq_lst, a_sq_scr, a_it_tup, a_it_lst, a_it_scr, a_qLen, a_qAt, a_qTuple, a_qSum, a_rng1, a_gLRng, a_fMin2, a_fMax2, a_fMin3, a_fAbs, a_fIntB, a_fIntI, a_isi_non, a_isi_bl, a_isi_int, a_isi_str, a_isi_tup, a_isi_lst, a_isN, a_notN, a_ofT, a_ofL, a_qTruth, a_mZip, a_qSumB, a_mPar, a_mAugI, a_mWhile, a_mPut, a_mParL, a_mPar3, a_gRevT, a_gRevL, a_mZip3, a_mIns, a_gTRng, a_mRetO, a_mRetL, a_mCallL, a_mTry, a_mAugS, a_mCount, a_gCount, a_wipe_nil, a_wipe_cons, a_callM, a_callN, List.map_cons, List.map_nil, List.length_cons, List.length_nil, List.cons_append, List.nil_append, Nat.reduceAdd, Nat.reduceSub, Nat.zero_add, List.replicate_succ, List.replicate_zero, List.getElem?_cons_zero, List.getElem?_cons_succ, List.set_cons_zero, List.set_cons_succ, List.append_nil, if_true, if_false, Bool.true_eq_false, Bool.false_eq_true, decide_true, decide_false, Bool.not_true, Bool.not_false, Nat.reduceLeDiff, Nat.reduceLT, Int.reduceLT, Int.reduceLE, Option.map_some, Option.map_none, Int.reduceToNat, true_and, and_true, Int.reduceNeg, decide_eq_true (show (0 : Int) < size by omega), b_neI] at ef
  have z : on = (b - a) % size := by
    refine ta.mp ?_
    have := (Res.ok.inj ef).1
    simpa using this
  unfold wayF
  rw [← z]
  by_cases q : 2 * on ≤ size
  · simp only [a_mVar, a_mC, a_mUn, a_mBin, a_mIf, a_mAnd, a_mOr, a_mNot, a_mNil, a_mCons, a_mCallF, a_mFn, a_mTst, a_mVal, a_mChain, a_mCmp, a_mSq, a_mOwn, a_mQ, a_mQ2, a_m2Q, a_mLst, a_mDisp, a_mTup, a_mRepL, a_mSeq, a_mSkip, a_mDrop, a_mRet, a_mRetN, a_mIfS, a_mSet, a_mSetL, a_mRaise, a_mNever, a_mFor, a_mLc, a_mIt, a_mFnL, a_mEnum, a_mSlc, a_mLRng, a_mLOf, a_oNone, a_oSome, a_asN, a_asT, a_mFrz, a_mApp, a_mExt, a_mPopAt, a_mPop, a_mSetM, a_mSetT, a_mSetTM, a_mAppM, a_ownAt, a_bnd, a_bnd_exc, a_bndS, a_bndS_exc, a_bndM, a_lift, a_asL_nil, a_asL_cons, a_gSub, a_gNeg, a_gAdd, a_gAddT, a_gAddL, a_gMod, a_gFdiv, a_gPow, a_gLt, a_gLe, a_gGt, a_gGe, a_truth_bl, a_truth_int, a_truth_lst, a_truth_tup, a_truth_non, a_blD, a_sq_tup, a_sq_lst, a_sq_scr, a_it_tup, a_it_lst, a_it_scr, a_qLen, a_qAt, a_qTuple, a_qSum, a_rng1, a_gLRng, a_fMin2, a_fMax2, a_fMin3, a_fAbs, a_fIntB, a_fIntI, a_isi_non, a_isi_bl, a_isi_int, a_isi_str, a_isi_tup, a_isi_lst, a_isN, a_notN, a_ofT, a_ofL, a_qTruth, a_mZip, a_qSumB, a_mPar, a_mAugI, a_mWhile, a_mPut, a_mParL, a_mPar3, a_gRevT, a_gRevL, a_mZip3, a_mIns, a_gTRng, a_mRetO, a_mRetL, a_mCallL, a_mTry, a_mAugS, a_mCount, a_gCount, a_wipe_nil, a_wipe_cons, a_callM, a_callN, List.map_cons, List.map_nil, List.length_cons, List.length_nil, List.cons_append, List.nil_append, Nat.reduceAdd, Nat.reduceSub, Nat.zero_add, List.replicate_succ, List.replicate_zero, List.getElem?_cons_zero, List.getElem?_cons_succ, List.set_cons_zero, List.set_cons_succ, List.append_nil, if_true, if_false, Bool.true_eq_false, Bool.false_eq_true, decide_true, decide_false, Bool.not_true, Bool.not_false, Nat.reduceLeDiff, Nat.reduceLT, Int.reduceLT, Int.reduceLE, Option.map_some, Option.map_none, Int.reduceToNat, true_and, and_true, Int.reduceNeg, decide_eq_true (show on ≤ size - on by omega), q]
  · simp only [a_mVar, a_mC, a_mUn, a_mBin, a_mIf, a_mAnd, a_mOr, a_mNot, a_mNil, a_mCons, a_mCallF, a_mFn, a_mTst, a_mVal, a_mChain, a_mCmp, a_mSq, a_mOwn, a_mQ, a_mQ2, a_m2Q, a_mLst, a_mDisp, a_mTup, a_mRepL, a_mSeq, a_mSkip, a_mDrop, a_mRet, a_mRetN, a_mIfS, a_mSet, a_mSetL, a_mRaise, a_mNever, a_mFor, a_mLc, a_mIt, a_mFnL, a_mEnum, a_mSlc, a_mLRng, a_mLOf, a_oNone, a_oSome, a_asN, a_asT, a_mFrz, a_mApp, a_mExt, a_mPopAt, a_mPop, a_mSetM, a_mSetT, a_mSetTM, a_mAppM, a_ownAt, a_bnd, a_bnd_exc, a_bndS, a_bndS_exc, a_bndM, a_lift, a_asL_nil, a_asL_cons, a_gSub, a_gNeg, a_gAdd, a_gAddT, a_gAddL, a_gMod, a_gFdiv, a_gPow, a_gLt, a_gLe, a_gGt, a_gGe, a_truth_bl, a_truth_int, a_truth_lst, a_truth_tup, a_truth_non, a_blD, a_sq_tup, a_sq_lst, a_sq_scr, a_it_tup, a_it_lst, a_it_scr, a_qLen, a_qAt, a_qTuple, a_qSum, a_rng1, a_gLRng, a_fMin2, a_fMax2, a_fMin3, a_fAbs, a_fIntB, a_fIntI, a_isi_non, a_isi_bl, a_isi_int, a_isi_str, a_isi_tup, a_isi_lst, a_isN, a_notN, a_ofT, a_ofL, a_qTruth, a_mZip, a_qSumB, a_mPar, a_mAugI, a_mWhile, a_mPut, a_mParL, a_mPar3, a_gRevT, a_gRevL, a_mZip3, a_mIns, a_gTRng, a_mRetO, a_mRetL, a_mCallL, a_mTry, a_mAugS, a_mCount, a_gCount, a_wipe_nil, a_wipe_cons, a_callM, a_callN, List.map_cons, List.map_nil, List.length_cons, List.length_nil, List.cons_append, List.nil_append, Nat.reduceAdd, Nat.reduceSub, Nat.zero_add, List.replicate_succ, List.replicate_zero, List.getElem?_cons_zero, List.getElem?_cons_succ, List.set_cons_zero, List.set_cons_succ, List.append_nil, if_true, if_false, Bool.true_eq_false, Bool.false_eq_true, decide_true, decide_false, Bool.not_true, Bool.not_false, Nat.reduceLeDiff, Nat.reduceLT, Int.reduceLT, Int.reduceLE, Option.map_some, Option.map_none, Int.reduceToNat, true_and, and_true, Int.reduceNeg, decide_eq_false (show ¬ on ≤ size - on by omega), q]

def absI (i : Int) : Int := if i < 0 then -i else i

/-! ### how far a row of things turns -/
def at0 (d : List Int) (t : Int) : Int := d.getD t.toNat 0
theorem at_in {d : List Int} {many : Nat} {t : Int} (hd : d.length = many) (ht : 0 ≤ t ∧ t < many) : atI (d.map D.int) t = some (.int (at0 d t)) := by
  obtain ⟨y, y1, y2⟩ := atI_map D.int d t ht.1 (by omega)
  rw [y2]
  simp [at0, List.getD, y1]
theorem at_mem {d : List Int} {many : Nat} {t : Int} (hd : d.length = many) (ht : 0 ≤ t ∧ t < many) : at0 d t ∈ d := by
  have h : t.toNat < d.length := by omega
  unfold at0
  simp [List.getD, h]
def farF (size : Nat) (d : List Int) : Int → List Int → Int
  | _, [] => 0
  | s, t :: r => absI (wayF size s (at0 d t)) + farF size d (at0 d t) r
/-! ### how far it is from place to place -/
def dst (size : Nat) (a b : Int) : Int := absI (wayF size a b)
theorem dst_eq {size : Nat} (s1 : 2 ≤ size) (a b : Int) : dst size a b = if 2 * ((b - a) % (size : Int)) ≤ size then (b - a) % size else size - (b - a) % size := by
  have h := way_mod s1 (b - a)
  unfold dst absI wayF
  split <;> split <;> omega
theorem dst_on {size : Nat} (s1 : 2 ≤ size) (a b : Int) : 0 ≤ dst size a b ∧ dst size a b ≤ (b - a) % size := by
  have h := way_mod s1 (b - a)
  rw [dst_eq s1]
  split <;> omega
theorem mod_add {size : Nat} (s1 : 2 ≤ size) (x y : Int) : (x + y) % (size : Int) = x % size + y % size ∨ (x + y) % (size : Int) = x % size + y % size - size := by
  have h1 := way_mod s1 x
  have h2 := way_mod s1 y
  have h3 := way_mod s1 (x + y)
  have e := Int.add_emod x y size
  by_cases z : x % size + y % size < size
  · left
    rw [e, Int.emod_eq_of_lt (by omega) z]
  · right
    rw [e, ← Int.sub_emod_right, Int.emod_eq_of_lt (by omega) (by omega)]
theorem dst_tri {size : Nat} (s1 : 2 ≤ size) (a b c : Int) : dst size a c ≤ dst size a b + dst size b c := by
  have h1 := way_mod s1 (b - a)
  have h2 := way_mod s1 (c - b)
  have h3 := way_mod s1 (c - a)
  have e := mod_add s1 (b - a) (c - b)
  rw [show b - a + (c - b) = c - a by omega] at e
  rw [dst_eq s1, dst_eq s1, dst_eq s1]
  generalize (b - a) % (size : Int) = x at *
  generalize (c - b) % (size : Int) = y at *
  generalize (c - a) % (size : Int) = z at *
  split <;> split <;> split <;> omega
theorem way_led {size : Nat} (a b k : Int) : wayF size ((a + k) % size) ((b + k) % size) = wayF size a b := by
  unfold wayF
  have : ((b + k) % (size : Int) - (a + k) % size) % size = (b - a) % size := by
    rw [← Int.sub_emod, show b + k - (a + k) = b - a by omega]
  rw [this]
/-! ### all orders -/
def insAll (t : Int) (o : List Int) : List (List Int) := (List.range (o.length + 1)).map fun i => o.take i ++ [t] ++ o.drop i
def ordersF (things : List Int) : List (List Int) := things.foldl (fun fs t => fs.flatMap (insAll t)) [[]]
theorem ordersF_snoc (ts : List Int) (t : Int) : ordersF (ts ++ [t]) = (ordersF ts).flatMap (insAll t) := by
  unfold ordersF
  rw [List.foldl_append]
  rfl
theorem mem_insAll {t : Int} {o x : List Int} : x ∈ insAll t o ↔ ∃ a b, o = a ++ b ∧ x = a ++ t :: b := by
  unfold insAll
  rw [List.mem_map]
  constructor
  · rintro ⟨i, _, rfl⟩
    exact ⟨o.take i, o.drop i, (List.take_append_drop i o).symm, by simp⟩
  · rintro ⟨a, b, rfl, rfl⟩
    refine ⟨a.length, by simp; omega, by simp⟩
theorem snoc_ind {α : Type} {P : List α → Prop} (h0 : P []) (h1 : ∀ l a, P l → P (l ++ [a])) (l : List α) : P l := by
  have key : ∀ m : List α, P m.reverse := by
    intro m
    induction m with
    | nil => exact h0
    | cons a m ih =>
      rw [List.reverse_cons]
      exact h1 _ _ ih
  have := key l.reverse
  rwa [List.reverse_reverse] at this
theorem mem_orders (ts : List Int) : ∀ o, o ∈ ordersF ts ↔ o.Perm ts := by
  refine snoc_ind (P := fun ts => ∀ o, o ∈ ordersF ts ↔ o.Perm ts) ?_ ?_ ts
  · intro o
    show o ∈ [[]] ↔ _
    rw [List.mem_singleton]
    exact ⟨fun e => by rw [e], fun p => p.eq_nil⟩
  · intro ts t ih o
    rw [ordersF_snoc, List.mem_flatMap]
    constructor
    · rintro ⟨o', h1, h2⟩
      obtain ⟨a, b, rfl, rfl⟩ := mem_insAll.mp h2
      have h3 := (ih _).mp h1
      exact List.perm_middle.trans ((h3.cons t).trans (List.perm_append_singleton t ts).symm)
    · intro p
      have ht : t ∈ o := p.mem_iff.mpr (by simp)
      obtain ⟨a, b, rfl⟩ := List.append_of_mem ht
      refine ⟨a ++ b, (ih _).mpr ?_, mem_insAll.mpr ⟨a, b, rfl, rfl⟩⟩
      have : (t :: (a ++ b)).Perm (t :: ts) := List.perm_middle.symm.trans (p.trans (List.perm_append_singleton t ts))
      exact this.cons_inv
theorem orders_ne (ts : List Int) : ordersF ts ≠ [] := fun e => by
  have := (mem_orders ts ts).mpr (List.Perm.refl _)
  rw [e] at this
  cases this
theorem insAll_len (t : Int) (o : List Int) : (insAll t o).length = o.length + 1 := by simp [insAll]
theorem flat_len' {α β : Type} (g : α → List β) (n : Nat) : ∀ l : List α, (∀ a ∈ l, (g a).length ≤ n) → (l.flatMap g).length ≤ n * l.length
  | [], _ => by simp
  | a :: l, hg => by
    rw [List.flatMap_cons, List.length_append, List.length_cons, Nat.mul_succ]
    have := hg a List.mem_cons_self
    have := flat_len' g n l fun b hb => hg b (List.mem_cons_of_mem _ hb)
    omega
theorem orders_len (ts : List Int) : ts.length ≤ 6 → (ordersF ts).length ≤ 7 ^ ts.length := by
  refine snoc_ind (P := fun ts => ts.length ≤ 6 → (ordersF ts).length ≤ 7 ^ ts.length) ?_ ?_ ts
  · intro _
    decide
  · intro ts t ih h
    rw [List.length_append, List.length_singleton] at h ⊢
    rw [ordersF_snoc]
    have h1 := ih (by omega)
    have h2 := flat_len' (insAll t) 7 (ordersF ts) fun o ho => by
      have := ((mem_orders ts o).mp ho).length_eq
      rw [insAll_len]
      omega
    have h3 : 7 * (ordersF ts).length ≤ 7 * 7 ^ ts.length := Nat.mul_le_mul_left 7 h1
    rw [Nat.pow_succ]
    omega
theorem orders_bound {ts : List Int} (h : ts.length ≤ 6) : (ordersF ts).length ≤ 117649 := by
  have h1 := orders_len ts h
  have h2 : 7 ^ ts.length ≤ 7 ^ 6 := Nat.pow_le_pow_right (by omega) h
  have h4 : (7 : Nat) ^ 6 = 117649 := by decide
  omega
/-! ### an errand turns less than once round -/
theorem far_up {size : Nat} (s1 : 2 ≤ size) (d : List Int) (start : Int) : ∀ (o : List Int) (here : Int), (∀ t ∈ o, (here - start) % (size : Int) ≤ (at0 d t - start) % size) → o.Pairwise (fun t u => (at0 d t - start) % (size : Int) ≤ (at0 d u - start) % size) →
    farF size d here o ≤ size - 1 - (here - start) % size
  | [], here, _, _ => by
    have := way_mod s1 (here - start)
    simp only [farF]
    omega
  | t :: o, here, h, p => by
    obtain ⟨p1, p2⟩ := List.pairwise_cons.mp p
    have ih := far_up s1 d start o (at0 d t) p1 p2
    have ht := h t List.mem_cons_self
    have hd := dst_on s1 here (at0 d t)
    have m1 := way_mod s1 (here - start)
    have m2 := way_mod s1 (at0 d t - start)
    have e : (at0 d t - here) % (size : Int) = (at0 d t - start) % size - (here - start) % size := by
      have : (at0 d t - here) = (at0 d t - start) - (here - start) := by omega
      rw [this, Int.sub_emod, Int.emod_eq_of_lt (by omega) (by omega)]
    show dst size here (at0 d t) + farF size d (at0 d t) o ≤ _
    omega
theorem far_less {size : Nat} (s1 : 2 ≤ size) (d : List Int) (start : Int) (ts : List Int) : ∃ o, o.Perm ts ∧ farF size d start o < size := by
  refine ⟨ts.mergeSort fun t u => decide ((at0 d t - start) % (size : Int) ≤ (at0 d u - start) % size), List.mergeSort_perm _ _, ?_⟩
  have p := List.pairwise_mergeSort (le := fun t u => decide ((at0 d t - start) % (size : Int) ≤ (at0 d u - start) % size)) (fun a b c h1 h2 => by
    simp at *
    omega) (fun a b => by
    simp
    omega) ts
  have z : (start - start) % (size : Int) = 0 := by rw [Int.sub_self]; rfl
  have := far_up s1 d start _ start (fun t _ => by
    rw [z]
    exact (way_mod s1 _).1) (p.imp fun h => of_decide_eq_true h)
  rw [z] at this
  omega
/-! ### a thing fewer turns no farther -/
theorem far_drop {size : Nat} (s1 : 2 ≤ size) (d : List Int) (t : Int) : ∀ (a b : List Int) (s : Int), farF size d s (a ++ b) ≤ farF size d s (a ++ t :: b)
  | [], [], s => by
    have := dst_on s1 s (at0 d t)
    show 0 ≤ dst size s (at0 d t) + 0
    omega
  | [], u :: b, s => by
    have := dst_tri s1 s (at0 d t) (at0 d u)
    show dst size s (at0 d u) + farF size d (at0 d u) b ≤ dst size s (at0 d t) + (dst size (at0 d t) (at0 d u) + farF size d (at0 d u) b)
    omega
  | u :: a, b, s => by
    have := far_drop s1 d t a b (at0 d u)
    show dst size s (at0 d u) + farF size d (at0 d u) (a ++ b) ≤ dst size s (at0 d u) + farF size d (at0 d u) (a ++ t :: b)
    omega
/-! ### led round -/
theorem far_led {size many : Nat} {d : List Int} (hd : d.length = many) (k : Int) : ∀ (o : List Int) (s : Int), (∀ t ∈ o, 0 ≤ t ∧ t < many) → farF size (d.map fun p => (p + k) % (size : Int)) ((s + k) % size) o = farF size d s o
  | [], _, _ => rfl
  | t :: o, s, h => by
    have ht := h t List.mem_cons_self
    have e : at0 (d.map fun p => (p + k) % (size : Int)) t = (at0 d t + k) % size := by
      unfold at0
      have : t.toNat < d.length := by omega
      simp [List.getD, this]
    unfold farF
    rw [e, way_led, far_led hd k o _ fun u hu => h u (List.mem_cons_of_mem _ hu)]

/-! ### calls done in their time -/
def mx (a b : Int) : Int := if b > a then b else a
def ticksF (size : Nat) (d : List Int) : Int → Int → List (Int × Int) → List Int
  | _, _, [] => []
  | here, free, c :: r => (mx c.1 free + dst size here (at0 d c.2)) :: ticksF size d (at0 d c.2) (mx c.1 free + dst size here (at0 d c.2)) r
def stepTo (size : Nat) (here goal : Int) : Int := (here + if wayF size here goal > 0 then 1 else -1) % size
theorem sub_mod_one {size : Nat} (s1 : 2 ≤ size) (x : Int) : (x - 1) % (size : Int) = if x % (size : Int) = 0 then (size : Int) - 1 else x % size - 1 := by
  have h := way_mod s1 x
  by_cases z : x % (size : Int) = 0
  · rw [if_pos z, Int.sub_emod, z, Int.emod_eq_of_lt (a := 1) (by omega) (by omega), ← Int.add_emod_right, Int.emod_eq_of_lt (by omega) (by omega)]
    omega
  · rw [if_neg z, Int.sub_emod, Int.emod_eq_of_lt (a := 1) (by omega) (by omega), Int.emod_eq_of_lt (by omega) (by omega)]
theorem add_mod_one {size : Nat} (s1 : 2 ≤ size) (x : Int) : (x + 1) % (size : Int) = if x % (size : Int) = size - 1 then 0 else x % size + 1 := by
  have h := way_mod s1 x
  by_cases z : x % (size : Int) = size - 1
  · rw [if_pos z, Int.add_emod, z, Int.emod_eq_of_lt (a := 1) (by omega) (by omega), Int.sub_add_cancel, Int.emod_self]
  · rw [if_neg z, Int.add_emod, Int.emod_eq_of_lt (a := 1) (by omega) (by omega), Int.emod_eq_of_lt (by omega) (by omega)]
theorem dst_step {size : Nat} (s1 : 2 ≤ size) {a b : Int} (ha : 0 ≤ a ∧ a < size) (hb : 0 ≤ b ∧ b < size) (hn : a ≠ b) : dst size (stepTo size a b) b = dst size a b - 1 := by
  have h := way_mod s1 (b - a)
  have hne : (b - a) % (size : Int) ≠ 0 := fun z => hn (by
    have := Int.emod_emod_of_dvd a (Int.dvd_refl (size : Int))
    have e : (b - a) % (size : Int) = 0 := z
    have e2 : b % (size : Int) = a % size := Int.emod_eq_emod_iff_emod_sub_eq_zero.mpr e
    rw [Int.emod_eq_of_lt hb.1 hb.2, Int.emod_eq_of_lt ha.1 ha.2] at e2
    exact e2.symm)
  rw [dst_eq s1, dst_eq s1]
  unfold stepTo
  by_cases z : wayF size a b > 0
  · have hw : 2 * ((b - a) % (size : Int)) ≤ size := by
      unfold wayF at z
      split at z <;> omega
    rw [if_pos z]
    have e : (b - (a + 1) % (size : Int)) % size = (b - a) % size - 1 := by
      rw [Int.sub_emod, Int.emod_emod_of_dvd _ (Int.dvd_refl _), ← Int.sub_emod, show b - (a + 1) = b - a - 1 by omega, sub_mod_one s1, if_neg hne]
    rw [e, if_pos hw, if_pos (by omega)]
  · have hw : ¬ 2 * ((b - a) % (size : Int)) ≤ size := by
      unfold wayF at z
      split at z <;> omega
    rw [if_neg z]
    have e : (b - (a + -1) % (size : Int)) % size = (b - a + 1) % size := by
      rw [Int.sub_emod, Int.emod_emod_of_dvd _ (Int.dvd_refl _), ← Int.sub_emod, show b - (a + -1) = b - a + 1 by omega]
    rw [e, add_mod_one s1, if_neg hw]
    split
    · rw [if_pos (by omega)]
      omega
    · rw [if_neg (by omega)]
      omega
theorem dst_zero {size : Nat} (s1 : 2 ≤ size) {a b : Int} (ha : 0 ≤ a ∧ a < size) (hb : 0 ≤ b ∧ b < size) : dst size a b = 0 ↔ a = b := by
  have h := way_mod s1 (b - a)
  have hq : (b - a) % (size : Int) = 0 ↔ a = b := by
    constructor
    · intro e
      have e2 : b % (size : Int) = a % size := Int.emod_eq_emod_iff_emod_sub_eq_zero.mpr e
      rw [Int.emod_eq_of_lt hb.1 hb.2, Int.emod_eq_of_lt ha.1 ha.2] at e2
      exact e2.symm
    · rintro rfl
      rw [Int.sub_self]
      rfl
  rw [dst_eq s1, ← hq]
  split <;> omega
theorem step_in {size : Nat} (s1 : 2 ≤ size) (a b : Int) : 0 ≤ stepTo size a b ∧ stepTo size a b < size := way_mod s1 _
def waitsF (size : Nat) (d : List Int) (calls : List (Int × Int)) : List Int := ((ticksF size d 0 0 calls).zip calls).map fun p => p.1 - p.2.1
theorem ticks_len (size : Nat) (d : List Int) : ∀ (calls : List (Int × Int)) (here free : Int), (ticksF size d here free calls).length = calls.length
  | [], _, _ => rfl
  | c :: r, here, free => by
    unfold ticksF
    rw [List.length_cons, List.length_cons, ticks_len]
theorem ways_small {size : Nat} (s1 : 2 ≤ size) (a b : Int) : 0 ≤ dst size a b ∧ 2 * dst size a b ≤ size := by
  have h1 := way_mod s1 (b - a)
  rw [dst_eq s1]
  split <;> omega

/-! ### calls, plain -/
def waysF (size : Nat) (d : List Int) : Int → List Int → List Int
  | _, [] => []
  | here, t :: r => dst size here (at0 d t) :: waysF size d (at0 d t) r
theorem ways_sum (size : Nat) (d : List Int) : ∀ (o : List Int) (here : Int), (waysF size d here o).sum = farF size d here o
  | [], _ => rfl
  | t :: o, here => by
    unfold waysF farF
    rw [List.sum_cons, ways_sum size d o]
    rfl
theorem ways_len (size : Nat) (d : List Int) : ∀ (o : List Int) (here : Int), (waysF size d here o).length = o.length
  | [], _ => rfl
  | t :: o, here => by
    unfold waysF
    rw [List.length_cons, List.length_cons, ways_len size d o]
theorem ways_rg {size : Nat} (s1 : 2 ≤ size) (d : List Int) : ∀ (o : List Int) (here : Int), ∀ x ∈ waysF size d here o, 0 ≤ x ∧ 2 * x ≤ size
  | [], _, x, h => by cases h
  | t :: o, here, x, h => by
    rcases List.mem_cons.mp h with z | z
    · have h1 := way_mod s1 (at0 d t - here)
      rw [z, dst_eq s1]
      split <;> omega
    · exact ways_rg s1 d o _ x z
theorem mx_add (a b k : Int) : mx (a + k) (b + k) = mx a b + k := by
  unfold mx
  split <;> split <;> omega
theorem ticks_shift (size : Nat) (d : List Int) (k : Int) : ∀ (calls : List (Int × Int)) (here free : Int), ticksF size d here (free + k) (calls.map fun c => (c.1 + k, c.2)) = (ticksF size d here free calls).map (· + k)
  | [], _, _ => rfl
  | c :: r, here, free => by
    rw [List.map_cons]
    unfold ticksF
    dsimp only
    rw [mx_add, show mx c.1 free + k + dst size here (at0 d c.2) = mx c.1 free + dst size here (at0 d c.2) + k by omega, ticks_shift size d k r, List.map_cons]
theorem ticks_shift0 (size : Nat) (d : List Int) {k : Int} (hk : 0 ≤ k) (calls : List (Int × Int)) (hc : ∀ c ∈ calls, 0 ≤ c.1) (here : Int) : ticksF size d here 0 (calls.map fun c => (c.1 + k, c.2)) = (ticksF size d here 0 calls).map (· + k) := by
  rw [← ticks_shift]
  cases calls with
  | nil => rfl
  | cons c r =>
    have := hc c List.mem_cons_self
    rw [List.map_cons]
    unfold ticksF
    dsimp only
    rw [show mx (c.1 + k) 0 = mx (c.1 + k) (0 + k) by unfold mx; split <;> split <;> omega]
theorem waits_shift (size : Nat) (d : List Int) {k : Int} (hk : 0 ≤ k) (calls : List (Int × Int)) (hc : ∀ c ∈ calls, 0 ≤ c.1) : waitsF size d (calls.map fun c => (c.1 + k, c.2)) = waitsF size d calls := by
  unfold waitsF
  rw [ticks_shift0 size d hk calls hc, List.zip_map, List.map_map]
  refine List.map_congr_left fun p _ => ?_
  show p.1 + k - (p.2.1 + k) = p.1 - p.2.1
  omega
/-- all at tick 0 -/
theorem ticks_once (size : Nat) (s1 : 2 ≤ size) (d : List Int) : ∀ (o : List Int) (here free : Int), 0 ≤ free → ∀ x ∈ ticksF size d here free (o.map fun t => (0, t)), free ≤ x ∧ x ≤ free + farF size d here o
  | [], _, _, _, x, h => by cases h
  | t :: o, here, free, hf, x, h => by
    rw [List.map_cons] at h
    unfold ticksF at h
    dsimp only at h
    have e : mx 0 free = free := by unfold mx; split <;> omega
    have hd := (dst_on s1 here (at0 d t)).1
    have hp : ∀ (o : List Int) (s : Int), 0 ≤ farF size d s o := by
      intro o
      induction o with
      | nil => intro s; exact Int.le_refl 0
      | cons u o ih =>
        intro s
        have h1 := (dst_on s1 s (at0 d u)).1
        have h2 := ih (at0 d u)
        show 0 ≤ dst size s (at0 d u) + farF size d (at0 d u) o
        omega
    rw [e] at h
    show free ≤ x ∧ x ≤ free + (dst size here (at0 d t) + farF size d (at0 d t) o)
    have h3 := hp o (at0 d t)
    rcases List.mem_cons.mp h with z | z
    · omega
    · have := ticks_once size s1 d o (at0 d t) (free + dst size here (at0 d t)) (by omega) x z
      omega
theorem ticks_once_last (size : Nat) (s1 : 2 ≤ size) (d : List Int) : ∀ (o : List Int) (here free : Int), 0 ≤ free → o ≠ [] → (ticksF size d here free (o.map fun t => (0, t))).getLast? = some (free + farF size d here o)
  | [], _, _, _, h => absurd rfl h
  | [t], here, free, hf, _ => by
    have e : mx 0 free = free := by unfold mx; split <;> omega
    simp only [List.map_cons, List.map_nil, ticksF, e, farF]
    show some (free + dst size here (at0 d t)) = some (free + (dst size here (at0 d t) + 0))
    rw [Int.add_zero]
  | t :: u :: o, here, free, hf, _ => by
    have e : mx 0 free = free := by unfold mx; split <;> omega
    have hd := (dst_on s1 here (at0 d t)).1
    have ih := ticks_once_last size s1 d (u :: o) (at0 d t) (free + dst size here (at0 d t)) (by omega) (by simp)
    rw [List.map_cons]
    unfold ticksF
    dsimp only
    rw [e]
    have hne : ticksF size d (at0 d t) (free + dst size here (at0 d t)) ((u :: o).map fun t => (0, t)) ≠ [] := by
      rw [List.map_cons]
      unfold ticksF
      simp
    rw [List.getLast?_cons, ih]
    show some _ = some (free + (dst size here (at0 d t) + farF size d (at0 d t) (u :: o)))
    rw [Int.add_assoc]
    rfl
theorem ticks_init (size : Nat) (d : List Int) : ∀ (calls : List (Int × Int)) (here free : Int), ticksF size d here free calls.dropLast = (ticksF size d here free calls).dropLast
  | [], _, _ => rfl
  | [c], _, _ => rfl
  | c :: c' :: r, here, free => by
    have ih := ticks_init size d (c' :: r) (at0 d c.2) (mx c.1 free + dst size here (at0 d c.2))
    rw [List.dropLast_cons₂]
    unfold ticksF
    rw [ih]
    rfl
theorem zip_take_mem {α β : Type} {p : α × β} : ∀ (n : Nat) (l : List α) (m : List β), p ∈ (l.take n).zip (m.take n) → p ∈ l.zip m
  | 0, l, m, h => by simp at h
  | n + 1, [], m, h => by simp at h
  | n + 1, a :: l, [], h => by simp at h
  | n + 1, a :: l, b :: m, h => by
    rw [List.take_succ_cons, List.take_succ_cons, List.zip_cons_cons] at h
    rw [List.zip_cons_cons]
    rcases List.mem_cons.mp h with z | z
    · rw [z]; exact List.mem_cons_self
    · exact List.mem_cons_of_mem _ (zip_take_mem n l m z)
theorem waits_init (size : Nat) (d : List Int) (calls : List (Int × Int)) : ∀ x ∈ waitsF size d calls.dropLast, x ∈ waitsF size d calls := by
  intro x hx
  unfold waitsF at hx ⊢
  rw [ticks_init] at hx
  obtain ⟨p, hp, rfl⟩ := List.mem_map.mp hx
  refine List.mem_map.mpr ⟨p, ?_, rfl⟩
  rw [List.dropLast_eq_take, List.dropLast_eq_take, ticks_len] at hp
  exact zip_take_mem _ _ _ hp
/-- far apart -/
theorem ticks_apart {size : Nat} (s1 : 2 ≤ size) (s2 : size ≤ 7) (d : List Int) : ∀ (o : List Int) (here free : Int) (j : Nat), free ≤ 8 * j → ((ticksF size d here free ((o.zipIdx j).map fun p => (8 * (p.2 : Int), p.1))).zip ((o.zipIdx j).map fun p => (8 * (p.2 : Int), p.1))).map (fun p => p.1 - p.2.1) = waysF size d here o
  | [], _, _, _, _ => rfl
  | t :: o, here, free, j, hf => by
    rw [List.zipIdx_cons, List.map_cons]
    unfold ticksF waysF
    dsimp only
    have e : mx (8 * (j : Int)) free = 8 * j := by unfold mx; split <;> omega
    have hb := ways_rg s1 d [t] here (dst size here (at0 d t)) List.mem_cons_self
    rw [e, List.zip_cons_cons, List.map_cons, ticks_apart s1 s2 d o (at0 d t) _ (j + 1) (by omega)]
    refine congrArg (· :: _) ?_
    show 8 * (j : Int) + dst size here (at0 d t) - 8 * (j : Int) = _
    omega
/-- calls of one thing -/
theorem ticks_same {size : Nat} (s1 : 2 ≤ size) (d : List Int) (t F : Int) (hp : 0 ≤ at0 d t ∧ at0 d t < size) : ∀ (r : List Int) (last : Int), (∀ x ∈ r, last ≤ x) → r.Pairwise (· ≤ ·) → ticksF size d (at0 d t) (mx last F) (r.map fun x => (x, t)) = r.map fun x => mx x F
  | [], _, _, _ => rfl
  | x :: r, last, h1, h2 => by
    obtain ⟨p1, p2⟩ := List.pairwise_cons.mp h2
    have hx := h1 x List.mem_cons_self
    have z : dst size (at0 d t) (at0 d t) = 0 := (dst_zero s1 hp hp).mpr rfl
    rw [List.map_cons, List.map_cons]
    unfold ticksF
    dsimp only
    have e : mx x (mx last F) = mx x F := by unfold mx; split <;> split <;> (try split) <;> omega
    rw [z, Int.add_zero, e, ticks_same s1 d t F hp r x p1 p2]

/-! ### turns, plain -/
def turnsF (size : Nat) (d : List Int) : Int → List Int → List Int
  | _, [] => []
  | here, t :: r => wayF size here (at0 d t) :: turnsF size d (at0 d t) r
theorem turns_len (size : Nat) (d : List Int) : ∀ (o : List Int) (here : Int), (turnsF size d here o).length = o.length
  | [], _ => rfl
  | t :: o, here => by
    unfold turnsF
    rw [List.length_cons, List.length_cons, turns_len size d o]
theorem turns_take (size : Nat) (d : List Int) : ∀ (n : Nat) (o : List Int) (here : Int), turnsF size d here (o.take n) = (turnsF size d here o).take n
  | 0, o, here => by rw [List.take_zero, List.take_zero]; rfl
  | n + 1, [], here => rfl
  | n + 1, t :: o, here => by
    rw [List.take_succ_cons]
    unfold turnsF
    rw [List.take_succ_cons, turns_take size d n o]
theorem way_back {size : Nat} (s1 : 2 ≤ size) (a : Int) {b : Int} (hb : 0 ≤ b ∧ b < size) : (a + wayF size a b) % size = b := by
  have e : (a + (b - a) % (size : Int)) % size = b := by
    rw [Int.add_emod, Int.emod_emod_of_dvd _ (Int.dvd_refl _), ← Int.add_emod, show a + (b - a) = b by omega, Int.emod_eq_of_lt hb.1 hb.2]
  unfold wayF
  split
  · exact e
  · rw [show a + ((b - a) % (size : Int) - size) = a + (b - a) % size - size by omega, Int.sub_emod_right, e]
theorem turns_det {size : Nat} (s1 : 2 ≤ size) {d d' : List Int} : ∀ (o : List Int) (here : Int), (∀ t ∈ o, 0 ≤ at0 d t ∧ at0 d t < size) → (∀ t ∈ o, 0 ≤ at0 d' t ∧ at0 d' t < size) → turnsF size d here o = turnsF size d' here o → ∀ t ∈ o, at0 d t = at0 d' t
  | [], _, _, _, _, t, h => by cases h
  | u :: o, here, h1, h2, e, t, h => by
    unfold turnsF at e
    obtain ⟨e1, e2⟩ := List.cons.inj e
    have hu : at0 d u = at0 d' u := by
      rw [← way_back s1 here (h1 u List.mem_cons_self), ← way_back s1 here (h2 u List.mem_cons_self), e1]
    rcases List.mem_cons.mp h with z | z
    · rw [z]; exact hu
    · rw [hu] at e2
      exact turns_det s1 o _ (fun t ht => h1 t (List.mem_cons_of_mem _ ht)) (fun t ht => h2 t (List.mem_cons_of_mem _ ht)) e2 t z
theorem turns_same {size : Nat} {d d' : List Int} : ∀ (o : List Int) (here : Int), (∀ t ∈ o, at0 d t = at0 d' t) → turnsF size d here o = turnsF size d' here o
  | [], _, _ => rfl
  | u :: o, here, h => by
    unfold turnsF
    rw [h u List.mem_cons_self, turns_same o _ fun t ht => h t (List.mem_cons_of_mem _ ht)]
/-- places at which rows of numbers part -/
def partsF (l m : List Int) : List Nat := (List.range l.length).filter fun i => !decide (l.getD i 0 = m.getD i 0)
theorem parts_nil {l m : List Int} (h : l.length = m.length) : partsF l m = [] ↔ l = m := by
  unfold partsF
  rw [List.filter_eq_nil_iff]
  constructor
  · intro q
    apply List.ext_getElem h
    intro i h1 h2
    have := q i (List.mem_range.mpr h1)
    simp [List.getD, h1, h2] at this
    exact this
  · rintro rfl i _
    simp
theorem parts_sym {l m : List Int} (h : l.length = m.length) : partsF l m = partsF m l := by
  unfold partsF
  rw [h]
  refine List.filter_congr fun i _ => ?_
  rw [decide_eq_decide.mpr (eq_comm (a := l.getD i 0) (b := m.getD i 0))]
theorem filter_head {p : Nat → Bool} : ∀ (n : Nat) {k : Nat} {r : List Nat}, (List.range n).filter p = k :: r → k < n ∧ ∀ i < k, p i = false
  | n, k, r, e => by
    have hm : k ∈ (List.range n).filter p := by rw [e]; exact List.mem_cons_self
    obtain ⟨h1, h2⟩ := List.mem_filter.mp hm
    refine ⟨List.mem_range.mp h1, fun i hi => ?_⟩
    cases q : p i with
    | false => rfl
    | true =>
      exfalso
      have hi' : i ∈ (List.range n).filter p := List.mem_filter.mpr ⟨List.mem_range.mpr (by have := List.mem_range.mp h1; omega), q⟩
      have up : ((List.range n).filter p).Pairwise (· < ·) := (List.pairwise_lt_range (n := n)).filter _
      rw [e] at hi' up
      rcases List.mem_cons.mp hi' with z | z
      · omega
      · have := (List.pairwise_cons.mp up).1 i z
        omega
theorem parts_take {l m : List Int} (h : l.length = m.length) {k : Nat} {r : List Nat} (e : partsF l m = k :: r) : l.take k = m.take k := by
  obtain ⟨h1, h2⟩ := filter_head _ e
  apply List.ext_getElem (by simp [h])
  intro i a b
  have hi : i < k := by simp at a; omega
  have := h2 i hi
  have l1 : i < l.length := by simp at a; omega
  have l2 : i < m.length := by omega
  simp [List.getD, l1, l2] at this
  simp [this]
theorem deal_ext {size many : Nat} {d d' : List Int} (h1 : d.length = many) (h2 : d'.length = many) (h : ∀ t : Int, 0 ≤ t → t < many → at0 d t = at0 d' t) : d = d' := by
  apply List.ext_getElem (by omega)
  intro i a b
  have := h (i : Int) (by omega) (by omega)
  simpa [at0, List.getD, a, b] using this
theorem filter_one {α : Type} {p : α → Bool} {a : α} : ∀ {l : List α}, l.Nodup → a ∈ l → p a = true → (∀ x ∈ l, p x = true → x = a) → l.filter p = [a]
  | [], _, h, _, _ => by cases h
  | b :: l, nd, h, ha, hu => by
    obtain ⟨n1, n2⟩ := List.nodup_cons.mp nd
    by_cases hb : p b = true
    · have e := hu b List.mem_cons_self hb
      subst e
      rw [List.filter_cons_of_pos hb, List.filter_eq_nil_iff.mpr fun x hx q => n1 ?_]
      rw [← hu x (List.mem_cons_of_mem _ hx) q]
      exact hx
    · rw [List.filter_cons_of_neg hb]
      rcases List.mem_cons.mp h with z | z
      · rw [z] at ha; exact absurd ha hb
      · exact filter_one n2 z ha fun x hx => hu x (List.mem_cons_of_mem _ hx)

/-! ### asks and turns -/
structure Asks (many : Nat) (o : List Int) : Prop where
  len : o.length ≤ 24
  th : ∀ t ∈ o, 0 ≤ t ∧ t < many
theorem e_look_asks {many : Nat} {o : List Int} (A : Asks many o) (h : AH) : f_look_asks [.int many, tupI o] h = .ok .non h := by
  have hl := A.len
  unfold f_look_asks m_look_asks
  simp only [a_mVar, a_mC, a_mUn, a_mBin, a_mIf, a_mAnd, a_mOr, a_mNot, a_mNil, a_mCons, a_mCallF, a_mFn, a_mTst, a_mVal, a_mChain, a_mCmp, a_mSq, a_mOwn, a_mQ, a_mQ2, a_m2Q, a_mLst, a_mDisp, a_mTup, a_mRepL, a_mSeq, a_mSkip, a_mDrop, a_mRet, a_mRetN, a_mIfS, a_mSet, a_mSetL, a_mRaise, a_mNever, a_mFor, a_mLc, a_mIt, a_mFnL, a_mEnum, a_mSlc, a_mLRng, a_mLOf, a_oNone, a_oSome, a_asN, a_asT, a_mFrz, a_mApp, a_mExt, a_mPopAt, a_mPop, a_mSetM, a_mSetT, a_mSetTM, a_mAppM, a_ownAt, a_bnd, a_bnd_exc, a_bndS, a_bndS_exc, a_bndM, a_lift, a_asL_nil, a_asL_cons, a_gSub, a_gNeg, a_gAdd, a_gAddT, a_gAddL, a_gMod, a_gFdiv, a_gPow, a_gLt, a_gLe, a_gGt, a_gGe, a_truth_bl, a_truth_int, a_truth_lst, a_truth_tup, a_truth_non, a_blD, a_sq_tup, a_sq_lst, a_sq_scr, a_it_tup, a_it_lst, a_it_scr, a_qLen, a_qAt, a_qTuple, a_qSum, a_rng1, a_gLRng, a_fMin2, a_fMax2, a_fMin3, a_fAbs, a_fIntB, a_fIntI, a_isi_non, a_isi_bl, a_isi_int, a_isi_str, a_isi_tup, a_isi_lst, a_isN, a_notN, a_ofT, a_ofL, a_qTruth, a_mZip, a_qSumB, a_mPar, a_mAugI, a_mWhile, a_mPut, a_mParL, a_mPar3, a_gRevT, a_gRevL, a_mZip3, a_mIns, a_gTRng, a_mRetO, a_mRetL, a_mCallL, a_mTry, a_mAugS, a_mCount, a_gCount, a_wipe_nil, a_wipe_cons, a_callM, a_callN, List.map_cons, List.map_nil, List.length_cons, List.length_nil, List.cons_append, List.nil_append, Nat.reduceAdd, Nat.reduceSub, Nat.zero_add, List.replicate_succ, List.replicate_zero, List.getElem?_cons_zero, List.getElem?_cons_succ, List.set_cons_zero, List.set_cons_succ, List.append_nil, if_true, if_false, Bool.true_eq_false, Bool.false_eq_true, decide_true, decide_false, Bool.not_true, Bool.not_false, Nat.reduceLeDiff, Nat.reduceLT, Int.reduceLT, Int.reduceLE, Option.map_some, Option.map_none, Int.reduceToNat, true_and, and_true, Int.reduceNeg, show isT "tuple" "tuple" = true from rfl, List.length_map, decide_eq_false (show ¬ (24 : Int) < (o.length : Nat) by omega)]
  rw [if_pos (show o.length ≤ sizeLine by unfold sizeLine; omega)]
  generalize hL : lcLoop _ _ _ _ _ _ = r
  obtain rfl := lc_at (f := D.int) hL (fun x => !decide (0 ≤ x ∧ x ≤ (many : Int) - 1)) D.int fun x hx => ⟨_, rfl, by simp only [a_mVar, a_mC, a_mUn, a_mBin, a_mIf, a_mAnd, a_mOr, a_mNot, a_mNil, a_mCons, a_mCallF, a_mFn, a_mTst, a_mVal, a_mChain, a_mCmp, a_mSq, a_mOwn, a_mQ, a_mQ2, a_m2Q, a_mLst, a_mDisp, a_mTup, a_mRepL, a_mSeq, a_mSkip, a_mDrop, a_mRet, a_mRetN, a_mIfS, a_mSet, a_mSetL, a_mRaise, a_mNever, a_mFor, a_mLc, a_mIt, a_mFnL, a_mEnum, a_mSlc, a_mLRng, a_mLOf, a_oNone, a_oSome, a_asN, a_asT, a_mFrz, a_mApp, a_mExt, a_mPopAt, a_mPop, a_mSetM, a_mSetT, a_mSetTM, a_mAppM, a_ownAt, a_bnd, a_bnd_exc, a_bndS, a_bndS_exc, a_bndM, a_lift, a_asL_nil, a_asL_cons, a_gSub, a_gNeg, a_gAdd, a_gAddT, a_gAddL, a_gMod, a_gFdiv, a_gPow, a_gLt, a_gLe, a_gGt, a_gGe, a_truth_bl, a_truth_int, a_truth_lst, a_truth_tup, a_truth_non, a_blD, a_sq_tup, a_sq_lst, a_sq_scr, a_it_tup, a_it_lst, a_it_scr, a_qLen, a_qAt, a_qTuple, a_qSum, a_rng1, a_gLRng, a_fMin2, a_fMax2, a_fMin3, a_fAbs, a_fIntB, a_fIntI, a_isi_non, a_isi_bl, a_isi_int, a_isi_str, a_isi_tup, a_isi_lst, a_isN, a_notN, a_ofT, a_ofL, a_qTruth, a_mZip, a_qSumB, a_mPar, a_mAugI, a_mWhile, a_mPut, a_mParL, a_mPar3, a_gRevT, a_gRevL, a_mZip3, a_mIns, a_gTRng, a_mRetO, a_mRetL, a_mCallL, a_mTry, a_mAugS, a_mCount, a_gCount, a_wipe_nil, a_wipe_cons, a_callM, a_callN, List.map_cons, List.map_nil, List.length_cons, List.length_nil, List.cons_append, List.nil_append, Nat.reduceAdd, Nat.reduceSub, Nat.zero_add, List.replicate_succ, List.replicate_zero, List.getElem?_cons_zero, List.getElem?_cons_succ, List.set_cons_zero, List.set_cons_succ, List.append_nil, if_true, if_false, Bool.true_eq_false, Bool.false_eq_true, decide_true, decide_false, Bool.not_true, Bool.not_false, Nat.reduceLeDiff, Nat.reduceLT, Int.reduceLT, Int.reduceLE, Option.map_some, Option.map_none, Int.reduceToNat, true_and, and_true, Int.reduceNeg, e_within], fun _ => by simp only [a_mVar, a_mC, a_mUn, a_mBin, a_mIf, a_mAnd, a_mOr, a_mNot, a_mNil, a_mCons, a_mCallF, a_mFn, a_mTst, a_mVal, a_mChain, a_mCmp, a_mSq, a_mOwn, a_mQ, a_mQ2, a_m2Q, a_mLst, a_mDisp, a_mTup, a_mRepL, a_mSeq, a_mSkip, a_mDrop, a_mRet, a_mRetN, a_mIfS, a_mSet, a_mSetL, a_mRaise, a_mNever, a_mFor, a_mLc, a_mIt, a_mFnL, a_mEnum, a_mSlc, a_mLRng, a_mLOf, a_oNone, a_oSome, a_asN, a_asT, a_mFrz, a_mApp, a_mExt, a_mPopAt, a_mPop, a_mSetM, a_mSetT, a_mSetTM, a_mAppM, a_ownAt, a_bnd, a_bnd_exc, a_bndS, a_bndS_exc, a_bndM, a_lift, a_asL_nil, a_asL_cons, a_gSub, a_gNeg, a_gAdd, a_gAddT, a_gAddL, a_gMod, a_gFdiv, a_gPow, a_gLt, a_gLe, a_gGt, a_gGe, a_truth_bl, a_truth_int, a_truth_lst, a_truth_tup, a_truth_non, a_blD, a_sq_tup, a_sq_lst, a_sq_scr, a_it_tup, a_it_lst, a_it_scr, a_qLen, a_qAt, a_qTuple, a_qSum, a_rng1, a_gLRng, a_fMin2, a_fMax2, a_fMin3, a_fAbs, a_fIntB, a_fIntI, a_isi_non, a_isi_bl, a_isi_int, a_isi_str, a_isi_tup, a_isi_lst, a_isN, a_notN, a_ofT, a_ofL, a_qTruth, a_mZip, a_qSumB, a_mPar, a_mAugI, a_mWhile, a_mPut, a_mParL, a_mPar3, a_gRevT, a_gRevL, a_mZip3, a_mIns, a_gTRng, a_mRetO, a_mRetL, a_mCallL, a_mTry, a_mAugS, a_mCount, a_gCount, a_wipe_nil, a_wipe_cons, a_callM, a_callN, List.map_cons, List.map_nil, List.length_cons, List.length_nil, List.cons_append, List.nil_append, Nat.reduceAdd, Nat.reduceSub, Nat.zero_add, List.replicate_succ, List.replicate_zero, List.getElem?_cons_zero, List.getElem?_cons_succ, List.set_cons_zero, List.set_cons_succ, List.append_nil, if_true, if_false, Bool.true_eq_false, Bool.false_eq_true, decide_true, decide_false, Bool.not_true, Bool.not_false, Nat.reduceLeDiff, Nat.reduceLT, Int.reduceLT, Int.reduceLE, Option.map_some, Option.map_none, Int.reduceToNat, true_and, and_true, Int.reduceNeg]⟩
  rw [List.filter_eq_nil_iff.mpr fun x hx => by
    have := A.th x hx
    rw [decide_eq_true (by omega)]
    decide]
  simp only [a_mVar, a_mC, a_mUn, a_mBin, a_mIf, a_mAnd, a_mOr, a_mNot, a_mNil, a_mCons, a_mCallF, a_mFn, a_mTst, a_mVal, a_mChain, a_mCmp, a_mSq, a_mOwn, a_mQ, a_mQ2, a_m2Q, a_mLst, a_mDisp, a_mTup, a_mRepL, a_mSeq, a_mSkip, a_mDrop, a_mRet, a_mRetN, a_mIfS, a_mSet, a_mSetL, a_mRaise, a_mNever, a_mFor, a_mLc, a_mIt, a_mFnL, a_mEnum, a_mSlc, a_mLRng, a_mLOf, a_oNone, a_oSome, a_asN, a_asT, a_mFrz, a_mApp, a_mExt, a_mPopAt, a_mPop, a_mSetM, a_mSetT, a_mSetTM, a_mAppM, a_ownAt, a_bnd, a_bnd_exc, a_bndS, a_bndS_exc, a_bndM, a_lift, a_asL_nil, a_asL_cons, a_gSub, a_gNeg, a_gAdd, a_gAddT, a_gAddL, a_gMod, a_gFdiv, a_gPow, a_gLt, a_gLe, a_gGt, a_gGe, a_truth_bl, a_truth_int, a_truth_lst, a_truth_tup, a_truth_non, a_blD, a_sq_tup, a_sq_lst, a_sq_scr, a_it_tup, a_it_lst, a_it_scr, a_qLen, a_qAt, a_qTuple, a_qSum, a_rng1, a_gLRng, a_fMin2, a_fMax2, a_fMin3, a_fAbs, a_fIntB, a_fIntI, a_isi_non, a_isi_bl, a_isi_int, a_isi_str, a_isi_tup, a_isi_lst, a_isN, a_notN, a_ofT, a_ofL, a_qTruth, a_mZip, a_qSumB, a_mPar, a_mAugI, a_mWhile, a_mPut, a_mParL, a_mPar3, a_gRevT, a_gRevL, a_mZip3, a_mIns, a_gTRng, a_mRetO, a_mRetL, a_mCallL, a_mTry, a_mAugS, a_mCount, a_gCount, a_wipe_nil, a_wipe_cons, a_callM, a_callN, List.map_cons, List.map_nil, List.length_cons, List.length_nil, List.cons_append, List.nil_append, Nat.reduceAdd, Nat.reduceSub, Nat.zero_add, List.replicate_succ, List.replicate_zero, List.getElem?_cons_zero, List.getElem?_cons_succ, List.set_cons_zero, List.set_cons_succ, List.append_nil, if_true, if_false, Bool.true_eq_false, Bool.false_eq_true, decide_true, decide_false, Bool.not_true, Bool.not_false, Nat.reduceLeDiff, Nat.reduceLT, Int.reduceLT, Int.reduceLE, Option.map_some, Option.map_none, Int.reduceToNat, true_and, and_true, Int.reduceNeg, List.isEmpty_nil]
theorem e_turns_told {size many : Nat} (s1 : 2 ≤ size) {d : List Int} (dl : d.length = many) {o : List Int} (hc : ∀ t ∈ o, 0 ≤ t ∧ t < many) (hl : o.length ≤ 1000) (h : AH) : f_turns_told [.int size, tupI d, tupI o] h = .ok (.lst ((turnsF size d 0 o).map .int)) h := by
  unfold f_turns_told m_turns_told
  simp only [a_mVar, a_mC, a_mUn, a_mBin, a_mIf, a_mAnd, a_mOr, a_mNot, a_mNil, a_mCons, a_mCallF, a_mFn, a_mTst, a_mVal, a_mChain, a_mCmp, a_mSq, a_mOwn, a_mQ, a_mQ2, a_m2Q, a_mLst, a_mDisp, a_mTup, a_mRepL, a_mSeq, a_mSkip, a_mDrop, a_mRet, a_mRetN, a_mIfS, a_mSet, a_mSetL, a_mRaise, a_mNever, a_mFor, a_mLc, a_mIt, a_mFnL, a_mEnum, a_mSlc, a_mLRng, a_mLOf, a_oNone, a_oSome, a_asN, a_asT, a_mFrz, a_mApp, a_mExt, a_mPopAt, a_mPop, a_mSetM, a_mSetT, a_mSetTM, a_mAppM, a_ownAt, a_bnd, a_bnd_exc, a_bndS, a_bndS_exc, a_bndM, a_lift, a_asL_nil, a_asL_cons, a_gSub, a_gNeg, a_gAdd, a_gAddT, a_gAddL, a_gMod, a_gFdiv, a_gPow, a_gLt, a_gLe, a_gGt, a_gGe, a_truth_bl, a_truth_int, a_truth_lst, a_truth_tup, a_truth_non, a_blD, a_sq_tup, a_sq_lst, a_sq_scr, a_it_tup, a_it_lst, a_it_scr, a_qLen, a_qAt, a_qTuple, a_qSum, a_rng1, a_gLRng, a_fMin2, a_fMax2, a_fMin3, a_fAbs, a_fIntB, a_fIntI, a_isi_non, a_isi_bl, a_isi_int, a_isi_str, a_isi_tup, a_isi_lst, a_isN, a_notN, a_ofT, a_ofL, a_qTruth, a_mZip, a_qSumB, a_mPar, a_mAugI, a_mWhile, a_mPut, a_mParL, a_mPar3, a_gRevT, a_gRevL, a_mZip3, a_mIns, a_gTRng, a_mRetO, a_mRetL, a_mCallL, a_mTry, a_mAugS, a_mCount, a_gCount, a_wipe_nil, a_wipe_cons, a_callM, a_callN, List.map_cons, List.map_nil, List.length_cons, List.length_nil, List.cons_append, List.nil_append, Nat.reduceAdd, Nat.reduceSub, Nat.zero_add, List.replicate_succ, List.replicate_zero, List.getElem?_cons_zero, List.getElem?_cons_succ, List.set_cons_zero, List.set_cons_succ, List.append_nil, if_true, if_false, Bool.true_eq_false, Bool.false_eq_true, decide_true, decide_false, Bool.not_true, Bool.not_false, Nat.reduceLeDiff, Nat.reduceLT, Int.reduceLT, Int.reduceLE, Option.map_some, Option.map_none, Int.reduceToNat, true_and, and_true, Int.reduceNeg]
  generalize hL : loopF _ _ _ _ _ = r
  obtain ⟨env', rfl, acc, here, q, rfl, ea, _⟩ := loopF_rest (f := D.int) (fun rest env => ∃ (acc : List Int) (here : Int) (q : Sl), env = [.val (.int size), .val (tupI d), .val (tupI o), .own (acc.map .int), .val (.int here), q] ∧ acc ++ turnsF size d here rest = turnsF size d 0 o ∧ (∀ c ∈ rest, 0 ≤ c ∧ c < many) ∧ acc.length + rest.length ≤ 1000) (by
      rintro c rest env ⟨acc, here, q, rfl, ea, hr, hn⟩
      refine ⟨_, rfl, ?_⟩
      have ht := hr c List.mem_cons_self
      rw [List.length_cons] at hn
      simp only [a_mVar, a_mC, a_mUn, a_mBin, a_mIf, a_mAnd, a_mOr, a_mNot, a_mNil, a_mCons, a_mCallF, a_mFn, a_mTst, a_mVal, a_mChain, a_mCmp, a_mSq, a_mOwn, a_mQ, a_mQ2, a_m2Q, a_mLst, a_mDisp, a_mTup, a_mRepL, a_mSeq, a_mSkip, a_mDrop, a_mRet, a_mRetN, a_mIfS, a_mSet, a_mSetL, a_mRaise, a_mNever, a_mFor, a_mLc, a_mIt, a_mFnL, a_mEnum, a_mSlc, a_mLRng, a_mLOf, a_oNone, a_oSome, a_asN, a_asT, a_mFrz, a_mApp, a_mExt, a_mPopAt, a_mPop, a_mSetM, a_mSetT, a_mSetTM, a_mAppM, a_ownAt, a_bnd, a_bnd_exc, a_bndS, a_bndS_exc, a_bndM, a_lift, a_asL_nil, a_asL_cons, a_gSub, a_gNeg, a_gAdd, a_gAddT, a_gAddL, a_gMod, a_gFdiv, a_gPow, a_gLt, a_gLe, a_gGt, a_gGe, a_truth_bl, a_truth_int, a_truth_lst, a_truth_tup, a_truth_non, a_blD, a_sq_tup, a_sq_lst, a_sq_scr, a_it_tup, a_it_lst, a_it_scr, a_qLen, a_qAt, a_qTuple, a_qSum, a_rng1, a_gLRng, a_fMin2, a_fMax2, a_fMin3, a_fAbs, a_fIntB, a_fIntI, a_isi_non, a_isi_bl, a_isi_int, a_isi_str, a_isi_tup, a_isi_lst, a_isN, a_notN, a_ofT, a_ofL, a_qTruth, a_mZip, a_qSumB, a_mPar, a_mAugI, a_mWhile, a_mPut, a_mParL, a_mPar3, a_gRevT, a_gRevL, a_mZip3, a_mIns, a_gTRng, a_mRetO, a_mRetL, a_mCallL, a_mTry, a_mAugS, a_mCount, a_gCount, a_wipe_nil, a_wipe_cons, a_callM, a_callN, List.map_cons, List.map_nil, List.length_cons, List.length_nil, List.cons_append, List.nil_append, Nat.reduceAdd, Nat.reduceSub, Nat.zero_add, List.replicate_succ, List.replicate_zero, List.getElem?_cons_zero, List.getElem?_cons_succ, List.set_cons_zero, List.set_cons_succ, List.append_nil, if_true, if_false, Bool.true_eq_false, Bool.false_eq_true, decide_true, decide_false, Bool.not_true, Bool.not_false, Nat.reduceLeDiff, Nat.reduceLT, Int.reduceLT, Int.reduceLE, Option.map_some, Option.map_none, Int.reduceToNat, true_and, and_true, Int.reduceNeg, at_in dl ht, e_way s1, List.length_map]
      rw [if_pos (show acc.length < sizeLine by unfold sizeLine; omega)]
      simp only [a_mVar, a_mC, a_mUn, a_mBin, a_mIf, a_mAnd, a_mOr, a_mNot, a_mNil, a_mCons, a_mCallF, a_mFn, a_mTst, a_mVal, a_mChain, a_mCmp, a_mSq, a_mOwn, a_mQ, a_mQ2, a_m2Q, a_mLst, a_mDisp, a_mTup, a_mRepL, a_mSeq, a_mSkip, a_mDrop, a_mRet, a_mRetN, a_mIfS, a_mSet, a_mSetL, a_mRaise, a_mNever, a_mFor, a_mLc, a_mIt, a_mFnL, a_mEnum, a_mSlc, a_mLRng, a_mLOf, a_oNone, a_oSome, a_asN, a_asT, a_mFrz, a_mApp, a_mExt, a_mPopAt, a_mPop, a_mSetM, a_mSetT, a_mSetTM, a_mAppM, a_ownAt, a_bnd, a_bnd_exc, a_bndS, a_bndS_exc, a_bndM, a_lift, a_asL_nil, a_asL_cons, a_gSub, a_gNeg, a_gAdd, a_gAddT, a_gAddL, a_gMod, a_gFdiv, a_gPow, a_gLt, a_gLe, a_gGt, a_gGe, a_truth_bl, a_truth_int, a_truth_lst, a_truth_tup, a_truth_non, a_blD, a_sq_tup, a_sq_lst, a_sq_scr, a_it_tup, a_it_lst, a_it_scr, a_qLen, a_qAt, a_qTuple, a_qSum, a_rng1, a_gLRng, a_fMin2, a_fMax2, a_fMin3, a_fAbs, a_fIntB, a_fIntI, a_isi_non, a_isi_bl, a_isi_int, a_isi_str, a_isi_tup, a_isi_lst, a_isN, a_notN, a_ofT, a_ofL, a_qTruth, a_mZip, a_qSumB, a_mPar, a_mAugI, a_mWhile, a_mPut, a_mParL, a_mPar3, a_gRevT, a_gRevL, a_mZip3, a_mIns, a_gTRng, a_mRetO, a_mRetL, a_mCallL, a_mTry, a_mAugS, a_mCount, a_gCount, a_wipe_nil, a_wipe_cons, a_callM, a_callN, List.map_cons, List.map_nil, List.length_cons, List.length_nil, List.cons_append, List.nil_append, Nat.reduceAdd, Nat.reduceSub, Nat.zero_add, List.replicate_succ, List.replicate_zero, List.getElem?_cons_zero, List.getElem?_cons_succ, List.set_cons_zero, List.set_cons_succ, List.append_nil, if_true, if_false, Bool.true_eq_false, Bool.false_eq_true, decide_true, decide_false, Bool.not_true, Bool.not_false, Nat.reduceLeDiff, Nat.reduceLT, Int.reduceLT, Int.reduceLE, Option.map_some, Option.map_none, Int.reduceToNat, true_and, and_true, Int.reduceNeg, at_in dl ht]
      refine ⟨_, rfl, acc ++ [wayF size here (at0 d c)], at0 d c, _, by rw [List.map_append]; rfl, ?_, fun b hb => hr b (List.mem_cons_of_mem _ hb), by simp; omega⟩
      rw [List.append_assoc]
      exact ea)
    o _ r hL ⟨[], 0, .none, rfl, rfl, hc, by simpa using hl⟩
  simp only [a_mVar, a_mC, a_mUn, a_mBin, a_mIf, a_mAnd, a_mOr, a_mNot, a_mNil, a_mCons, a_mCallF, a_mFn, a_mTst, a_mVal, a_mChain, a_mCmp, a_mSq, a_mOwn, a_mQ, a_mQ2, a_m2Q, a_mLst, a_mDisp, a_mTup, a_mRepL, a_mSeq, a_mSkip, a_mDrop, a_mRet, a_mRetN, a_mIfS, a_mSet, a_mSetL, a_mRaise, a_mNever, a_mFor, a_mLc, a_mIt, a_mFnL, a_mEnum, a_mSlc, a_mLRng, a_mLOf, a_oNone, a_oSome, a_asN, a_asT, a_mFrz, a_mApp, a_mExt, a_mPopAt, a_mPop, a_mSetM, a_mSetT, a_mSetTM, a_mAppM, a_ownAt, a_bnd, a_bnd_exc, a_bndS, a_bndS_exc, a_bndM, a_lift, a_asL_nil, a_asL_cons, a_gSub, a_gNeg, a_gAdd, a_gAddT, a_gAddL, a_gMod, a_gFdiv, a_gPow, a_gLt, a_gLe, a_gGt, a_gGe, a_truth_bl, a_truth_int, a_truth_lst, a_truth_tup, a_truth_non, a_blD, a_sq_tup, a_sq_lst, a_sq_scr, a_it_tup, a_it_lst, a_it_scr, a_qLen, a_qAt, a_qTuple, a_qSum, a_rng1, a_gLRng, a_fMin2, a_fMax2, a_fMin3, a_fAbs, a_fIntB, a_fIntI, a_isi_non, a_isi_bl, a_isi_int, a_isi_str, a_isi_tup, a_isi_lst, a_isN, a_notN, a_ofT, a_ofL, a_qTruth, a_mZip, a_qSumB, a_mPar, a_mAugI, a_mWhile, a_mPut, a_mParL, a_mPar3, a_gRevT, a_gRevL, a_mZip3, a_mIns, a_gTRng, a_mRetO, a_mRetL, a_mCallL, a_mTry, a_mAugS, a_mCount, a_gCount, a_wipe_nil, a_wipe_cons, a_callM, a_callN, List.map_cons, List.map_nil, List.length_cons, List.length_nil, List.cons_append, List.nil_append, Nat.reduceAdd, Nat.reduceSub, Nat.zero_add, List.replicate_succ, List.replicate_zero, List.getElem?_cons_zero, List.getElem?_cons_succ, List.set_cons_zero, List.set_cons_succ, List.append_nil, if_true, if_false, Bool.true_eq_false, Bool.false_eq_true, decide_true, decide_false, Bool.not_true, Bool.not_false, Nat.reduceLeDiff, Nat.reduceLT, Int.reduceLT, Int.reduceLE, Option.map_some, Option.map_none, Int.reduceToNat, true_and, and_true, Int.reduceNeg]
  rw [turnsF, List.append_nil] at ea
  rw [ea]
theorem abs_turns (size : Nat) (d : List Int) : ∀ (o : List Int) (here : Int), (turnsF size d here o).map absI = waysF size d here o
  | [], _ => rfl
  | t :: o, here => by
    unfold turnsF waysF
    rw [List.map_cons, abs_turns size d o]
    rfl
theorem lc_abs {as : D → Env' → Option Env'} {e : M D} {env : Env'} {h : AH} {o : List Int} {r : Res (List D)} (hL : lcLoop as (fun _ h => .ok true h) e (o.map D.int) env h = r) (st : ∀ x, ∃ env1, as (.int x) env = some env1 ∧ e env1 h = .ok (.int (absI x)) h) : r = .ok ((o.map absI).map .int) h := by
  rw [lc_mp hL (fun x => D.int (absI x)) fun x _ => st x, List.map_map]
  rfl
/-! ### this law's asks -/
theorem e_law_asks (seed : Int) (many long : Nat) (h1 : 1 ≤ many) (h2 : long ≤ 24) (h : AH) : ∃ o, Asks many o ∧ o.length = long ∧ f__law_asks [.int seed, .int many, .int long] h = .ok (tupI o) h := by
  have p1 := Int.emod_nonneg (seed / 5) (b := 3) (by omega)
  have p2 := Int.emod_lt_of_pos (seed / 5) (b := 3) (by omega)
  unfold f__law_asks m__law_asks
  simp only [a_mVar, a_mC, a_mUn, a_mBin, a_mIf, a_mAnd, a_mOr, a_mNot, a_mNil, a_mCons, a_mCallF, a_mFn, a_mTst, a_mVal, a_mChain, a_mCmp, a_mSq, a_mOwn, a_mQ, a_mQ2, a_m2Q, a_mLst, a_mDisp, a_mTup, a_mRepL, a_mSeq, a_mSkip, a_mDrop, a_mRet, a_mRetN, a_mIfS, a_mSet, a_mSetL, a_mRaise, a_mNever, a_mFor, a_mLc, a_mIt, a_mFnL, a_mEnum, a_mSlc, a_mLRng, a_mLOf, a_oNone, a_oSome, a_asN, a_asT, a_mFrz, a_mApp, a_mExt, a_mPopAt, a_mPop, a_mSetM, a_mSetT, a_mSetTM, a_mAppM, a_ownAt, a_bnd, a_bnd_exc, a_bndS, a_bndS_exc, a_bndM, a_lift, a_asL_nil, a_asL_cons, a_gSub, a_gNeg, a_gAdd, a_gAddT, a_gAddL, a_gMod, a_gFdiv, a_gPow, a_gLt, a_gLe, a_gGt, a_gGe, a_truth_bl, a_truth_int, a_truth_lst, a_truth_tup, a_truth_non, a_blD, a_sq_tup, a_sq_lst, a_sq_scr, a_it_tup, a_it_lst, a_it_scr, a_qLen, a_qAt, a_qTuple, a_qSum, a_rng1, a_gLRng, a_fMin2, a_fMax2, a_fMin3, a_fAbs, a_fIntB, a_fIntI, a_isi_non, a_isi_bl, a_isi_int, a_isi_str, a_isi_tup, a_isi_lst, a_isN, a_notN, a_ofT, a_ofL, a_qTruth, a_mZip, a_qSumB, a_mPar, a_mAugI, a_mWhile, a_mPut, a_mParL, a_mPar3, a_gRevT, a_gRevL, a_mZip3, a_mIns, a_gTRng, a_mRetO, a_mRetL, a_mCallL, a_mTry, a_mAugS, a_mCount, a_gCount, a_wipe_nil, a_wipe_cons, a_callM, a_callN, List.map_cons, List.map_nil, List.length_cons, List.length_nil, List.cons_append, List.nil_append, Nat.reduceAdd, Nat.reduceSub, Nat.zero_add, List.replicate_succ, List.replicate_zero, List.getElem?_cons_zero, List.getElem?_cons_succ, List.set_cons_zero, List.set_cons_succ, List.append_nil, if_true, if_false, Bool.true_eq_false, Bool.false_eq_true, decide_true, decide_false, Bool.not_true, Bool.not_false, Nat.reduceLeDiff, Nat.reduceLT, Int.reduceLT, Int.reduceLE, Option.map_some, Option.map_none, Int.reduceToNat, true_and, and_true, Int.reduceNeg, decide_eq_true (show (0 : Int) < 5 ∧ (5 : Int) < 1073741824 by omega), decide_eq_true (show (0 : Int) < 3 by omega)]
  generalize seed / 5 % 3 = z at p1 p2
  have hz : z = 0 ∨ z = 1 ∨ z = 2 := by omega
  have ew : ∃ wide : Int, 1 ≤ wide ∧ atI [D.int many, D.int 2, D.int 3] z = some (.int wide) := by
    rcases hz with rfl | rfl | rfl
    · exact ⟨many, by omega, rfl⟩
    · exact ⟨2, by omega, rfl⟩
    · exact ⟨3, by omega, rfl⟩
  obtain ⟨wide, hw, ew⟩ := ew
  simp only [a_mVar, a_mC, a_mUn, a_mBin, a_mIf, a_mAnd, a_mOr, a_mNot, a_mNil, a_mCons, a_mCallF, a_mFn, a_mTst, a_mVal, a_mChain, a_mCmp, a_mSq, a_mOwn, a_mQ, a_mQ2, a_m2Q, a_mLst, a_mDisp, a_mTup, a_mRepL, a_mSeq, a_mSkip, a_mDrop, a_mRet, a_mRetN, a_mIfS, a_mSet, a_mSetL, a_mRaise, a_mNever, a_mFor, a_mLc, a_mIt, a_mFnL, a_mEnum, a_mSlc, a_mLRng, a_mLOf, a_oNone, a_oSome, a_asN, a_asT, a_mFrz, a_mApp, a_mExt, a_mPopAt, a_mPop, a_mSetM, a_mSetT, a_mSetTM, a_mAppM, a_ownAt, a_bnd, a_bnd_exc, a_bndS, a_bndS_exc, a_bndM, a_lift, a_asL_nil, a_asL_cons, a_gSub, a_gNeg, a_gAdd, a_gAddT, a_gAddL, a_gMod, a_gFdiv, a_gPow, a_gLt, a_gLe, a_gGt, a_gGe, a_truth_bl, a_truth_int, a_truth_lst, a_truth_tup, a_truth_non, a_blD, a_sq_tup, a_sq_lst, a_sq_scr, a_it_tup, a_it_lst, a_it_scr, a_qLen, a_qAt, a_qTuple, a_qSum, a_rng1, a_gLRng, a_fMin2, a_fMax2, a_fMin3, a_fAbs, a_fIntB, a_fIntI, a_isi_non, a_isi_bl, a_isi_int, a_isi_str, a_isi_tup, a_isi_lst, a_isN, a_notN, a_ofT, a_ofL, a_qTruth, a_mZip, a_qSumB, a_mPar, a_mAugI, a_mWhile, a_mPut, a_mParL, a_mPar3, a_gRevT, a_gRevL, a_mZip3, a_mIns, a_gTRng, a_mRetO, a_mRetL, a_mCallL, a_mTry, a_mAugS, a_mCount, a_gCount, a_wipe_nil, a_wipe_cons, a_callM, a_callN, List.map_cons, List.map_nil, List.length_cons, List.length_nil, List.cons_append, List.nil_append, Nat.reduceAdd, Nat.reduceSub, Nat.zero_add, List.replicate_succ, List.replicate_zero, List.getElem?_cons_zero, List.getElem?_cons_succ, List.set_cons_zero, List.set_cons_succ, List.append_nil, if_true, if_false, Bool.true_eq_false, Bool.false_eq_true, decide_true, decide_false, Bool.not_true, Bool.not_false, Nat.reduceLeDiff, Nat.reduceLT, Int.reduceLT, Int.reduceLE, Option.map_some, Option.map_none, Int.reduceToNat, true_and, and_true, Int.reduceNeg, ew]
  rw [if_pos (show (-1000000 : Int) ≤ (long : Nat) ∧ ((long : Nat) : Int) ≤ 1000000 by omega)]
  simp only [a_mVar, a_mC, a_mUn, a_mBin, a_mIf, a_mAnd, a_mOr, a_mNot, a_mNil, a_mCons, a_mCallF, a_mFn, a_mTst, a_mVal, a_mChain, a_mCmp, a_mSq, a_mOwn, a_mQ, a_mQ2, a_m2Q, a_mLst, a_mDisp, a_mTup, a_mRepL, a_mSeq, a_mSkip, a_mDrop, a_mRet, a_mRetN, a_mIfS, a_mSet, a_mSetL, a_mRaise, a_mNever, a_mFor, a_mLc, a_mIt, a_mFnL, a_mEnum, a_mSlc, a_mLRng, a_mLOf, a_oNone, a_oSome, a_asN, a_asT, a_mFrz, a_mApp, a_mExt, a_mPopAt, a_mPop, a_mSetM, a_mSetT, a_mSetTM, a_mAppM, a_ownAt, a_bnd, a_bnd_exc, a_bndS, a_bndS_exc, a_bndM, a_lift, a_asL_nil, a_asL_cons, a_gSub, a_gNeg, a_gAdd, a_gAddT, a_gAddL, a_gMod, a_gFdiv, a_gPow, a_gLt, a_gLe, a_gGt, a_gGe, a_truth_bl, a_truth_int, a_truth_lst, a_truth_tup, a_truth_non, a_blD, a_sq_tup, a_sq_lst, a_sq_scr, a_it_tup, a_it_lst, a_it_scr, a_qLen, a_qAt, a_qTuple, a_qSum, a_rng1, a_gLRng, a_fMin2, a_fMax2, a_fMin3, a_fAbs, a_fIntB, a_fIntI, a_isi_non, a_isi_bl, a_isi_int, a_isi_str, a_isi_tup, a_isi_lst, a_isN, a_notN, a_ofT, a_ofL, a_qTruth, a_mZip, a_qSumB, a_mPar, a_mAugI, a_mWhile, a_mPut, a_mParL, a_mPar3, a_gRevT, a_gRevL, a_mZip3, a_mIns, a_gTRng, a_mRetO, a_mRetL, a_mCallL, a_mTry, a_mAugS, a_mCount, a_gCount, a_wipe_nil, a_wipe_cons, a_callM, a_callN, List.map_cons, List.map_nil, List.length_cons, List.length_nil, List.cons_append, List.nil_append, Nat.reduceAdd, Nat.reduceSub, Nat.zero_add, List.replicate_succ, List.replicate_zero, List.getElem?_cons_zero, List.getElem?_cons_succ, List.set_cons_zero, List.set_cons_succ, List.append_nil, if_true, if_false, Bool.true_eq_false, Bool.false_eq_true, decide_true, decide_false, Bool.not_true, Bool.not_false, Nat.reduceLeDiff, Nat.reduceLT, Int.reduceLT, Int.reduceLE, Option.map_some, Option.map_none, Int.reduceToNat, true_and, and_true, Int.reduceNeg, Int.toNat_natCast, rangeD_map, List.length_map, List.length_range]
  rw [if_pos (show long ≤ sizeLine by unfold sizeLine; omega)]
  generalize hL : lcLoop _ _ _ _ _ _ = r
  obtain rfl := lc_mp (f := fun i : Nat => D.int (0 + i)) hL (fun k : Nat => D.int (seedF seed (0 + k) / 97 % (if (0 : Int) < (0 + (k : Int)) % 5 then (if wide < many then wide else many) else many))) fun k hk => ⟨_, rfl, by
    simp only [a_mVar, a_mC, a_mUn, a_mBin, a_mIf, a_mAnd, a_mOr, a_mNot, a_mNil, a_mCons, a_mCallF, a_mFn, a_mTst, a_mVal, a_mChain, a_mCmp, a_mSq, a_mOwn, a_mQ, a_mQ2, a_m2Q, a_mLst, a_mDisp, a_mTup, a_mRepL, a_mSeq, a_mSkip, a_mDrop, a_mRet, a_mRetN, a_mIfS, a_mSet, a_mSetL, a_mRaise, a_mNever, a_mFor, a_mLc, a_mIt, a_mFnL, a_mEnum, a_mSlc, a_mLRng, a_mLOf, a_oNone, a_oSome, a_asN, a_asT, a_mFrz, a_mApp, a_mExt, a_mPopAt, a_mPop, a_mSetM, a_mSetT, a_mSetTM, a_mAppM, a_ownAt, a_bnd, a_bnd_exc, a_bndS, a_bndS_exc, a_bndM, a_lift, a_asL_nil, a_asL_cons, a_gSub, a_gNeg, a_gAdd, a_gAddT, a_gAddL, a_gMod, a_gFdiv, a_gPow, a_gLt, a_gLe, a_gGt, a_gGe, a_truth_bl, a_truth_int, a_truth_lst, a_truth_tup, a_truth_non, a_blD, a_sq_tup, a_sq_lst, a_sq_scr, a_it_tup, a_it_lst, a_it_scr, a_qLen, a_qAt, a_qTuple, a_qSum, a_rng1, a_gLRng, a_fMin2, a_fMax2, a_fMin3, a_fAbs, a_fIntB, a_fIntI, a_isi_non, a_isi_bl, a_isi_int, a_isi_str, a_isi_tup, a_isi_lst, a_isN, a_notN, a_ofT, a_ofL, a_qTruth, a_mZip, a_qSumB, a_mPar, a_mAugI, a_mWhile, a_mPut, a_mParL, a_mPar3, a_gRevT, a_gRevL, a_mZip3, a_mIns, a_gTRng, a_mRetO, a_mRetL, a_mCallL, a_mTry, a_mAugS, a_mCount, a_gCount, a_wipe_nil, a_wipe_cons, a_callM, a_callN, List.map_cons, List.map_nil, List.length_cons, List.length_nil, List.cons_append, List.nil_append, Nat.reduceAdd, Nat.reduceSub, Nat.zero_add, List.replicate_succ, List.replicate_zero, List.getElem?_cons_zero, List.getElem?_cons_succ, List.set_cons_zero, List.set_cons_succ, List.append_nil, if_true, if_false, Bool.true_eq_false, Bool.false_eq_true, decide_true, decide_false, Bool.not_true, Bool.not_false, Nat.reduceLeDiff, Nat.reduceLT, Int.reduceLT, Int.reduceLE, Option.map_some, Option.map_none, Int.reduceToNat, true_and, and_true, Int.reduceNeg, e_seed, decide_eq_true (show (0 : Int) < 5 by omega)]
    by_cases q : (0 : Int) < (0 + (k : Int)) % 5
    · simp only [a_mVar, a_mC, a_mUn, a_mBin, a_mIf, a_mAnd, a_mOr, a_mNot, a_mNil, a_mCons, a_mCallF, a_mFn, a_mTst, a_mVal, a_mChain, a_mCmp, a_mSq, a_mOwn, a_mQ, a_mQ2, a_m2Q, a_mLst, a_mDisp, a_mTup, a_mRepL, a_mSeq, a_mSkip, a_mDrop, a_mRet, a_mRetN, a_mIfS, a_mSet, a_mSetL, a_mRaise, a_mNever, a_mFor, a_mLc, a_mIt, a_mFnL, a_mEnum, a_mSlc, a_mLRng, a_mLOf, a_oNone, a_oSome, a_asN, a_asT, a_mFrz, a_mApp, a_mExt, a_mPopAt, a_mPop, a_mSetM, a_mSetT, a_mSetTM, a_mAppM, a_ownAt, a_bnd, a_bnd_exc, a_bndS, a_bndS_exc, a_bndM, a_lift, a_asL_nil, a_asL_cons, a_gSub, a_gNeg, a_gAdd, a_gAddT, a_gAddL, a_gMod, a_gFdiv, a_gPow, a_gLt, a_gLe, a_gGt, a_gGe, a_truth_bl, a_truth_int, a_truth_lst, a_truth_tup, a_truth_non, a_blD, a_sq_tup, a_sq_lst, a_sq_scr, a_it_tup, a_it_lst, a_it_scr, a_qLen, a_qAt, a_qTuple, a_qSum, a_rng1, a_gLRng, a_fMin2, a_fMax2, a_fMin3, a_fAbs, a_fIntB, a_fIntI, a_isi_non, a_isi_bl, a_isi_int, a_isi_str, a_isi_tup, a_isi_lst, a_isN, a_notN, a_ofT, a_ofL, a_qTruth, a_mZip, a_qSumB, a_mPar, a_mAugI, a_mWhile, a_mPut, a_mParL, a_mPar3, a_gRevT, a_gRevL, a_mZip3, a_mIns, a_gTRng, a_mRetO, a_mRetL, a_mCallL, a_mTry, a_mAugS, a_mCount, a_gCount, a_wipe_nil, a_wipe_cons, a_callM, a_callN, List.map_cons, List.map_nil, List.length_cons, List.length_nil, List.cons_append, List.nil_append, Nat.reduceAdd, Nat.reduceSub, Nat.zero_add, List.replicate_succ, List.replicate_zero, List.getElem?_cons_zero, List.getElem?_cons_succ, List.set_cons_zero, List.set_cons_succ, List.append_nil, if_true, if_false, Bool.true_eq_false, Bool.false_eq_true, decide_true, decide_false, Bool.not_true, Bool.not_false, Nat.reduceLeDiff, Nat.reduceLT, Int.reduceLT, Int.reduceLE, Option.map_some, Option.map_none, Int.reduceToNat, true_and, and_true, Int.reduceNeg, decide_eq_true q, if_pos q]
      rw [e_pick _ _ (by split <;> omega)]
    · simp only [a_mVar, a_mC, a_mUn, a_mBin, a_mIf, a_mAnd, a_mOr, a_mNot, a_mNil, a_mCons, a_mCallF, a_mFn, a_mTst, a_mVal, a_mChain, a_mCmp, a_mSq, a_mOwn, a_mQ, a_mQ2, a_m2Q, a_mLst, a_mDisp, a_mTup, a_mRepL, a_mSeq, a_mSkip, a_mDrop, a_mRet, a_mRetN, a_mIfS, a_mSet, a_mSetL, a_mRaise, a_mNever, a_mFor, a_mLc, a_mIt, a_mFnL, a_mEnum, a_mSlc, a_mLRng, a_mLOf, a_oNone, a_oSome, a_asN, a_asT, a_mFrz, a_mApp, a_mExt, a_mPopAt, a_mPop, a_mSetM, a_mSetT, a_mSetTM, a_mAppM, a_ownAt, a_bnd, a_bnd_exc, a_bndS, a_bndS_exc, a_bndM, a_lift, a_asL_nil, a_asL_cons, a_gSub, a_gNeg, a_gAdd, a_gAddT, a_gAddL, a_gMod, a_gFdiv, a_gPow, a_gLt, a_gLe, a_gGt, a_gGe, a_truth_bl, a_truth_int, a_truth_lst, a_truth_tup, a_truth_non, a_blD, a_sq_tup, a_sq_lst, a_sq_scr, a_it_tup, a_it_lst, a_it_scr, a_qLen, a_qAt, a_qTuple, a_qSum, a_rng1, a_gLRng, a_fMin2, a_fMax2, a_fMin3, a_fAbs, a_fIntB, a_fIntI, a_isi_non, a_isi_bl, a_isi_int, a_isi_str, a_isi_tup, a_isi_lst, a_isN, a_notN, a_ofT, a_ofL, a_qTruth, a_mZip, a_qSumB, a_mPar, a_mAugI, a_mWhile, a_mPut, a_mParL, a_mPar3, a_gRevT, a_gRevL, a_mZip3, a_mIns, a_gTRng, a_mRetO, a_mRetL, a_mCallL, a_mTry, a_mAugS, a_mCount, a_gCount, a_wipe_nil, a_wipe_cons, a_callM, a_callN, List.map_cons, List.map_nil, List.length_cons, List.length_nil, List.cons_append, List.nil_append, Nat.reduceAdd, Nat.reduceSub, Nat.zero_add, List.replicate_succ, List.replicate_zero, List.getElem?_cons_zero, List.getElem?_cons_succ, List.set_cons_zero, List.set_cons_succ, List.append_nil, if_true, if_false, Bool.true_eq_false, Bool.false_eq_true, decide_true, decide_false, Bool.not_true, Bool.not_false, Nat.reduceLeDiff, Nat.reduceLT, Int.reduceLT, Int.reduceLE, Option.map_some, Option.map_none, Int.reduceToNat, true_and, and_true, Int.reduceNeg, decide_eq_false q, if_neg q]
      rw [e_pick _ _ (by omega)]⟩
  refine ⟨(List.range long).map fun (k : Nat) => seedF seed (0 + k) / 97 % (if (0 : Int) < (0 + (k : Int)) % 5 then (if wide < many then wide else many) else many), ⟨by simp; omega, fun t ht => ?_⟩, by simp, ?_⟩
  · obtain ⟨k, _, rfl⟩ := List.mem_map.mp ht
    have hb : (1 : Int) ≤ (if (0 : Int) < (0 + (k : Int)) % 5 then (if wide < many then wide else (many : Int)) else many) ∧ (if (0 : Int) < (0 + (k : Int)) % 5 then (if wide < many then wide else (many : Int)) else many) ≤ many := by split <;> (try split) <;> omega
    have a := Int.emod_nonneg (seedF seed (0 + k) / 97) (b := (if (0 : Int) < (0 + (k : Int)) % 5 then (if wide < many then wide else (many : Int)) else many)) (by omega)
    have b := Int.emod_lt_of_pos (seedF seed (0 + k) / 97) (b := (if (0 : Int) < (0 + (k : Int)) % 5 then (if wide < many then wide else (many : Int)) else many)) (by omega)
    omega
  · simp only [a_mVar, a_mC, a_mUn, a_mBin, a_mIf, a_mAnd, a_mOr, a_mNot, a_mNil, a_mCons, a_mCallF, a_mFn, a_mTst, a_mVal, a_mChain, a_mCmp, a_mSq, a_mOwn, a_mQ, a_mQ2, a_m2Q, a_mLst, a_mDisp, a_mTup, a_mRepL, a_mSeq, a_mSkip, a_mDrop, a_mRet, a_mRetN, a_mIfS, a_mSet, a_mSetL, a_mRaise, a_mNever, a_mFor, a_mLc, a_mIt, a_mFnL, a_mEnum, a_mSlc, a_mLRng, a_mLOf, a_oNone, a_oSome, a_asN, a_asT, a_mFrz, a_mApp, a_mExt, a_mPopAt, a_mPop, a_mSetM, a_mSetT, a_mSetTM, a_mAppM, a_ownAt, a_bnd, a_bnd_exc, a_bndS, a_bndS_exc, a_bndM, a_lift, a_asL_nil, a_asL_cons, a_gSub, a_gNeg, a_gAdd, a_gAddT, a_gAddL, a_gMod, a_gFdiv, a_gPow, a_gLt, a_gLe, a_gGt, a_gGe, a_truth_bl, a_truth_int, a_truth_lst, a_truth_tup, a_truth_non, a_blD, a_sq_tup, a_sq_lst, a_sq_scr, a_it_tup, a_it_lst, a_it_scr, a_qLen, a_qAt, a_qTuple, a_qSum, a_rng1, a_gLRng, a_fMin2, a_fMax2, a_fMin3, a_fAbs, a_fIntB, a_fIntI, a_isi_non, a_isi_bl, a_isi_int, a_isi_str, a_isi_tup, a_isi_lst, a_isN, a_notN, a_ofT, a_ofL, a_qTruth, a_mZip, a_qSumB, a_mPar, a_mAugI, a_mWhile, a_mPut, a_mParL, a_mPar3, a_gRevT, a_gRevL, a_mZip3, a_mIns, a_gTRng, a_mRetO, a_mRetL, a_mCallL, a_mTry, a_mAugS, a_mCount, a_gCount, a_wipe_nil, a_wipe_cons, a_callM, a_callN, List.map_cons, List.map_nil, List.length_cons, List.length_nil, List.cons_append, List.nil_append, Nat.reduceAdd, Nat.reduceSub, Nat.zero_add, List.replicate_succ, List.replicate_zero, List.getElem?_cons_zero, List.getElem?_cons_succ, List.set_cons_zero, List.set_cons_succ, List.append_nil, if_true, if_false, Bool.true_eq_false, Bool.false_eq_true, decide_true, decide_false, Bool.not_true, Bool.not_false, Nat.reduceLeDiff, Nat.reduceLT, Int.reduceLT, Int.reduceLE, Option.map_some, Option.map_none, Int.reduceToNat, true_and, and_true, Int.reduceNeg]
    show Res.ok (D.tup _) h = Res.ok (D.tup _) h
    rw [List.map_map]
    rfl

/-! ### deals heard -/
abbrev lstI (l : List Int) : D := .lst (l.map .int)
def heardF (size many : Nat) (o ts : List Int) : List (List Int) := (everyF size many).filter fun d => decide (turnsF size d 0 o = ts)
theorem e_look_turns {o ts : List Int} (hl : ts.length = o.length) (h24 : o.length ≤ 24) (h : AH) : f_look_turns [tupI o, lstI ts] h = .ok .non h := by
  unfold f_look_turns m_look_turns
  simp only [a_mVar, a_mC, a_mUn, a_mBin, a_mIf, a_mAnd, a_mOr, a_mNot, a_mNil, a_mCons, a_mCallF, a_mFn, a_mTst, a_mVal, a_mChain, a_mCmp, a_mSq, a_mOwn, a_mQ, a_mQ2, a_m2Q, a_mLst, a_mDisp, a_mTup, a_mRepL, a_mSeq, a_mSkip, a_mDrop, a_mRet, a_mRetN, a_mIfS, a_mSet, a_mSetL, a_mRaise, a_mNever, a_mFor, a_mLc, a_mIt, a_mFnL, a_mEnum, a_mSlc, a_mLRng, a_mLOf, a_oNone, a_oSome, a_asN, a_asT, a_mFrz, a_mApp, a_mExt, a_mPopAt, a_mPop, a_mSetM, a_mSetT, a_mSetTM, a_mAppM, a_ownAt, a_bnd, a_bnd_exc, a_bndS, a_bndS_exc, a_bndM, a_lift, a_asL_nil, a_asL_cons, a_gSub, a_gNeg, a_gAdd, a_gAddT, a_gAddL, a_gMod, a_gFdiv, a_gPow, a_gLt, a_gLe, a_gGt, a_gGe, a_truth_bl, a_truth_int, a_truth_lst, a_truth_tup, a_truth_non, a_blD, a_sq_tup, a_sq_lst, a_sq_scr, a_it_tup, a_it_lst, a_it_scr, a_qLen, a_qAt, a_qTuple, a_qSum, a_rng1, a_gLRng, a_fMin2, a_fMax2, a_fMin3, a_fAbs, a_fIntB, a_fIntI, a_isi_non, a_isi_bl, a_isi_int, a_isi_str, a_isi_tup, a_isi_lst, a_isN, a_notN, a_ofT, a_ofL, a_qTruth, a_mZip, a_qSumB, a_mPar, a_mAugI, a_mWhile, a_mPut, a_mParL, a_mPar3, a_gRevT, a_gRevL, a_mZip3, a_mIns, a_gTRng, a_mRetO, a_mRetL, a_mCallL, a_mTry, a_mAugS, a_mCount, a_gCount, a_wipe_nil, a_wipe_cons, a_callM, a_callN, List.map_cons, List.map_nil, List.length_cons, List.length_nil, List.cons_append, List.nil_append, Nat.reduceAdd, Nat.reduceSub, Nat.zero_add, List.replicate_succ, List.replicate_zero, List.getElem?_cons_zero, List.getElem?_cons_succ, List.set_cons_zero, List.set_cons_succ, List.append_nil, if_true, if_false, Bool.true_eq_false, Bool.false_eq_true, decide_true, decide_false, Bool.not_true, Bool.not_false, Nat.reduceLeDiff, Nat.reduceLT, Int.reduceLT, Int.reduceLE, Option.map_some, Option.map_none, Int.reduceToNat, true_and, and_true, Int.reduceNeg, show isT "list" "list" = true from rfl, List.length_map, b_neI, hl]
  rw [if_pos (show o.length ≤ sizeLine by unfold sizeLine; omega)]
  generalize hL : lcLoop _ _ _ _ _ _ = r
  obtain rfl := lc_at (f := D.int) hL (fun x => false) D.int fun x hx => ⟨_, rfl, by simp only [a_mVar, a_mC, a_mUn, a_mBin, a_mIf, a_mAnd, a_mOr, a_mNot, a_mNil, a_mCons, a_mCallF, a_mFn, a_mTst, a_mVal, a_mChain, a_mCmp, a_mSq, a_mOwn, a_mQ, a_mQ2, a_m2Q, a_mLst, a_mDisp, a_mTup, a_mRepL, a_mSeq, a_mSkip, a_mDrop, a_mRet, a_mRetN, a_mIfS, a_mSet, a_mSetL, a_mRaise, a_mNever, a_mFor, a_mLc, a_mIt, a_mFnL, a_mEnum, a_mSlc, a_mLRng, a_mLOf, a_oNone, a_oSome, a_asN, a_asT, a_mFrz, a_mApp, a_mExt, a_mPopAt, a_mPop, a_mSetM, a_mSetT, a_mSetTM, a_mAppM, a_ownAt, a_bnd, a_bnd_exc, a_bndS, a_bndS_exc, a_bndM, a_lift, a_asL_nil, a_asL_cons, a_gSub, a_gNeg, a_gAdd, a_gAddT, a_gAddL, a_gMod, a_gFdiv, a_gPow, a_gLt, a_gLe, a_gGt, a_gGe, a_truth_bl, a_truth_int, a_truth_lst, a_truth_tup, a_truth_non, a_blD, a_sq_tup, a_sq_lst, a_sq_scr, a_it_tup, a_it_lst, a_it_scr, a_qLen, a_qAt, a_qTuple, a_qSum, a_rng1, a_gLRng, a_fMin2, a_fMax2, a_fMin3, a_fAbs, a_fIntB, a_fIntI, a_isi_non, a_isi_bl, a_isi_int, a_isi_str, a_isi_tup, a_isi_lst, a_isN, a_notN, a_ofT, a_ofL, a_qTruth, a_mZip, a_qSumB, a_mPar, a_mAugI, a_mWhile, a_mPut, a_mParL, a_mPar3, a_gRevT, a_gRevL, a_mZip3, a_mIns, a_gTRng, a_mRetO, a_mRetL, a_mCallL, a_mTry, a_mAugS, a_mCount, a_gCount, a_wipe_nil, a_wipe_cons, a_callM, a_callN, List.map_cons, List.map_nil, List.length_cons, List.length_nil, List.cons_append, List.nil_append, Nat.reduceAdd, Nat.reduceSub, Nat.zero_add, List.replicate_succ, List.replicate_zero, List.getElem?_cons_zero, List.getElem?_cons_succ, List.set_cons_zero, List.set_cons_succ, List.append_nil, if_true, if_false, Bool.true_eq_false, Bool.false_eq_true, decide_true, decide_false, Bool.not_true, Bool.not_false, Nat.reduceLeDiff, Nat.reduceLT, Int.reduceLT, Int.reduceLE, Option.map_some, Option.map_none, Int.reduceToNat, true_and, and_true, Int.reduceNeg, show isT "int" "int" = true from rfl, show isT "bool" "int" = false from rfl], fun q => by cases q⟩
  rw [List.filter_eq_nil_iff.mpr fun x hx => by simp]
  simp only [a_mVar, a_mC, a_mUn, a_mBin, a_mIf, a_mAnd, a_mOr, a_mNot, a_mNil, a_mCons, a_mCallF, a_mFn, a_mTst, a_mVal, a_mChain, a_mCmp, a_mSq, a_mOwn, a_mQ, a_mQ2, a_m2Q, a_mLst, a_mDisp, a_mTup, a_mRepL, a_mSeq, a_mSkip, a_mDrop, a_mRet, a_mRetN, a_mIfS, a_mSet, a_mSetL, a_mRaise, a_mNever, a_mFor, a_mLc, a_mIt, a_mFnL, a_mEnum, a_mSlc, a_mLRng, a_mLOf, a_oNone, a_oSome, a_asN, a_asT, a_mFrz, a_mApp, a_mExt, a_mPopAt, a_mPop, a_mSetM, a_mSetT, a_mSetTM, a_mAppM, a_ownAt, a_bnd, a_bnd_exc, a_bndS, a_bndS_exc, a_bndM, a_lift, a_asL_nil, a_asL_cons, a_gSub, a_gNeg, a_gAdd, a_gAddT, a_gAddL, a_gMod, a_gFdiv, a_gPow, a_gLt, a_gLe, a_gGt, a_gGe, a_truth_bl, a_truth_int, a_truth_lst, a_truth_tup, a_truth_non, a_blD, a_sq_tup, a_sq_lst, a_sq_scr, a_it_tup, a_it_lst, a_it_scr, a_qLen, a_qAt, a_qTuple, a_qSum, a_rng1, a_gLRng, a_fMin2, a_fMax2, a_fMin3, a_fAbs, a_fIntB, a_fIntI, a_isi_non, a_isi_bl, a_isi_int, a_isi_str, a_isi_tup, a_isi_lst, a_isN, a_notN, a_ofT, a_ofL, a_qTruth, a_mZip, a_qSumB, a_mPar, a_mAugI, a_mWhile, a_mPut, a_mParL, a_mPar3, a_gRevT, a_gRevL, a_mZip3, a_mIns, a_gTRng, a_mRetO, a_mRetL, a_mCallL, a_mTry, a_mAugS, a_mCount, a_gCount, a_wipe_nil, a_wipe_cons, a_callM, a_callN, List.map_cons, List.map_nil, List.length_cons, List.length_nil, List.cons_append, List.nil_append, Nat.reduceAdd, Nat.reduceSub, Nat.zero_add, List.replicate_succ, List.replicate_zero, List.getElem?_cons_zero, List.getElem?_cons_succ, List.set_cons_zero, List.set_cons_succ, List.append_nil, if_true, if_false, Bool.true_eq_false, Bool.false_eq_true, decide_true, decide_false, Bool.not_true, Bool.not_false, Nat.reduceLeDiff, Nat.reduceLT, Int.reduceLT, Int.reduceLE, Option.map_some, Option.map_none, Int.reduceToNat, true_and, and_true, Int.reduceNeg, List.isEmpty_nil]
theorem e_heard {size many : Nat} (s1 : 2 ≤ size) (s2 : size ≤ 7) (h2 : many ≤ 6) {o ts : List Int} (A : Asks many o) (h : AH) : f_heard_deals [.int size, .int many, tupI o, lstI ts] h = .ok (.lst ((heardF size many o ts).map tupI)) h := by
  have hb := every_bound (size := size) (n := many) s2 h2
  have ok := every_deal_ok size many
  have al := A.len
  unfold f_heard_deals m_heard_deals
  simp only [a_mVar, a_mC, a_mUn, a_mBin, a_mIf, a_mAnd, a_mOr, a_mNot, a_mNil, a_mCons, a_mCallF, a_mFn, a_mTst, a_mVal, a_mChain, a_mCmp, a_mSq, a_mOwn, a_mQ, a_mQ2, a_m2Q, a_mLst, a_mDisp, a_mTup, a_mRepL, a_mSeq, a_mSkip, a_mDrop, a_mRet, a_mRetN, a_mIfS, a_mSet, a_mSetL, a_mRaise, a_mNever, a_mFor, a_mLc, a_mIt, a_mFnL, a_mEnum, a_mSlc, a_mLRng, a_mLOf, a_oNone, a_oSome, a_asN, a_asT, a_mFrz, a_mApp, a_mExt, a_mPopAt, a_mPop, a_mSetM, a_mSetT, a_mSetTM, a_mAppM, a_ownAt, a_bnd, a_bnd_exc, a_bndS, a_bndS_exc, a_bndM, a_lift, a_asL_nil, a_asL_cons, a_gSub, a_gNeg, a_gAdd, a_gAddT, a_gAddL, a_gMod, a_gFdiv, a_gPow, a_gLt, a_gLe, a_gGt, a_gGe, a_truth_bl, a_truth_int, a_truth_lst, a_truth_tup, a_truth_non, a_blD, a_sq_tup, a_sq_lst, a_sq_scr, a_it_tup, a_it_lst, a_it_scr, a_qLen, a_qAt, a_qTuple, a_qSum, a_rng1, a_gLRng, a_fMin2, a_fMax2, a_fMin3, a_fAbs, a_fIntB, a_fIntI, a_isi_non, a_isi_bl, a_isi_int, a_isi_str, a_isi_tup, a_isi_lst, a_isN, a_notN, a_ofT, a_ofL, a_qTruth, a_mZip, a_qSumB, a_mPar, a_mAugI, a_mWhile, a_mPut, a_mParL, a_mPar3, a_gRevT, a_gRevL, a_mZip3, a_mIns, a_gTRng, a_mRetO, a_mRetL, a_mCallL, a_mTry, a_mAugS, a_mCount, a_gCount, a_wipe_nil, a_wipe_cons, a_callM, a_callN, List.map_cons, List.map_nil, List.length_cons, List.length_nil, List.cons_append, List.nil_append, Nat.reduceAdd, Nat.reduceSub, Nat.zero_add, List.replicate_succ, List.replicate_zero, List.getElem?_cons_zero, List.getElem?_cons_succ, List.set_cons_zero, List.set_cons_succ, List.append_nil, if_true, if_false, Bool.true_eq_false, Bool.false_eq_true, decide_true, decide_false, Bool.not_true, Bool.not_false, Nat.reduceLeDiff, Nat.reduceLT, Int.reduceLT, Int.reduceLE, Option.map_some, Option.map_none, Int.reduceToNat, true_and, and_true, Int.reduceNeg, e_every s2 h2, List.length_map]
  rw [if_pos (show (everyF size many).length ≤ sizeLine by unfold sizeLine; omega)]
  generalize hL : lcLoop _ _ _ _ _ _ = r
  obtain rfl := lc_at (f := tupI) hL (fun d => decide (turnsF size d 0 o = ts)) tupI fun d hd => ⟨_, rfl, by simp only [a_mVar, a_mC, a_mUn, a_mBin, a_mIf, a_mAnd, a_mOr, a_mNot, a_mNil, a_mCons, a_mCallF, a_mFn, a_mTst, a_mVal, a_mChain, a_mCmp, a_mSq, a_mOwn, a_mQ, a_mQ2, a_m2Q, a_mLst, a_mDisp, a_mTup, a_mRepL, a_mSeq, a_mSkip, a_mDrop, a_mRet, a_mRetN, a_mIfS, a_mSet, a_mSetL, a_mRaise, a_mNever, a_mFor, a_mLc, a_mIt, a_mFnL, a_mEnum, a_mSlc, a_mLRng, a_mLOf, a_oNone, a_oSome, a_asN, a_asT, a_mFrz, a_mApp, a_mExt, a_mPopAt, a_mPop, a_mSetM, a_mSetT, a_mSetTM, a_mAppM, a_ownAt, a_bnd, a_bnd_exc, a_bndS, a_bndS_exc, a_bndM, a_lift, a_asL_nil, a_asL_cons, a_gSub, a_gNeg, a_gAdd, a_gAddT, a_gAddL, a_gMod, a_gFdiv, a_gPow, a_gLt, a_gLe, a_gGt, a_gGe, a_truth_bl, a_truth_int, a_truth_lst, a_truth_tup, a_truth_non, a_blD, a_sq_tup, a_sq_lst, a_sq_scr, a_it_tup, a_it_lst, a_it_scr, a_qLen, a_qAt, a_qTuple, a_qSum, a_rng1, a_gLRng, a_fMin2, a_fMax2, a_fMin3, a_fAbs, a_fIntB, a_fIntI, a_isi_non, a_isi_bl, a_isi_int, a_isi_str, a_isi_tup, a_isi_lst, a_isN, a_notN, a_ofT, a_ofL, a_qTruth, a_mZip, a_qSumB, a_mPar, a_mAugI, a_mWhile, a_mPut, a_mParL, a_mPar3, a_gRevT, a_gRevL, a_mZip3, a_mIns, a_gTRng, a_mRetO, a_mRetL, a_mCallL, a_mTry, a_mAugS, a_mCount, a_gCount, a_wipe_nil, a_wipe_cons, a_callM, a_callN, List.map_cons, List.map_nil, List.length_cons, List.length_nil, List.cons_append, List.nil_append, Nat.reduceAdd, Nat.reduceSub, Nat.zero_add, List.replicate_succ, List.replicate_zero, List.getElem?_cons_zero, List.getElem?_cons_succ, List.set_cons_zero, List.set_cons_succ, List.append_nil, if_true, if_false, Bool.true_eq_false, Bool.false_eq_true, decide_true, decide_false, Bool.not_true, Bool.not_false, Nat.reduceLeDiff, Nat.reduceLT, Int.reduceLT, Int.reduceLE, Option.map_some, Option.map_none, Int.reduceToNat, true_and, and_true, Int.reduceNeg, e_turns_told s1 (ok d hd).len A.th (by omega), b_eqL], fun _ => by simp only [a_mVar, a_mC, a_mUn, a_mBin, a_mIf, a_mAnd, a_mOr, a_mNot, a_mNil, a_mCons, a_mCallF, a_mFn, a_mTst, a_mVal, a_mChain, a_mCmp, a_mSq, a_mOwn, a_mQ, a_mQ2, a_m2Q, a_mLst, a_mDisp, a_mTup, a_mRepL, a_mSeq, a_mSkip, a_mDrop, a_mRet, a_mRetN, a_mIfS, a_mSet, a_mSetL, a_mRaise, a_mNever, a_mFor, a_mLc, a_mIt, a_mFnL, a_mEnum, a_mSlc, a_mLRng, a_mLOf, a_oNone, a_oSome, a_asN, a_asT, a_mFrz, a_mApp, a_mExt, a_mPopAt, a_mPop, a_mSetM, a_mSetT, a_mSetTM, a_mAppM, a_ownAt, a_bnd, a_bnd_exc, a_bndS, a_bndS_exc, a_bndM, a_lift, a_asL_nil, a_asL_cons, a_gSub, a_gNeg, a_gAdd, a_gAddT, a_gAddL, a_gMod, a_gFdiv, a_gPow, a_gLt, a_gLe, a_gGt, a_gGe, a_truth_bl, a_truth_int, a_truth_lst, a_truth_tup, a_truth_non, a_blD, a_sq_tup, a_sq_lst, a_sq_scr, a_it_tup, a_it_lst, a_it_scr, a_qLen, a_qAt, a_qTuple, a_qSum, a_rng1, a_gLRng, a_fMin2, a_fMax2, a_fMin3, a_fAbs, a_fIntB, a_fIntI, a_isi_non, a_isi_bl, a_isi_int, a_isi_str, a_isi_tup, a_isi_lst, a_isN, a_notN, a_ofT, a_ofL, a_qTruth, a_mZip, a_qSumB, a_mPar, a_mAugI, a_mWhile, a_mPut, a_mParL, a_mPar3, a_gRevT, a_gRevL, a_mZip3, a_mIns, a_gTRng, a_mRetO, a_mRetL, a_mCallL, a_mTry, a_mAugS, a_mCount, a_gCount, a_wipe_nil, a_wipe_cons, a_callM, a_callN, List.map_cons, List.map_nil, List.length_cons, List.length_nil, List.cons_append, List.nil_append, Nat.reduceAdd, Nat.reduceSub, Nat.zero_add, List.replicate_succ, List.replicate_zero, List.getElem?_cons_zero, List.getElem?_cons_succ, List.set_cons_zero, List.set_cons_succ, List.append_nil, if_true, if_false, Bool.true_eq_false, Bool.false_eq_true, decide_true, decide_false, Bool.not_true, Bool.not_false, Nat.reduceLeDiff, Nat.reduceLT, Int.reduceLT, Int.reduceLE, Option.map_some, Option.map_none, Int.reduceToNat, true_and, and_true, Int.reduceNeg]⟩
  rfl
theorem e_deals_by {size many : Nat} (s1 : 2 ≤ size) (s2 : size ≤ 7) (h1 : 1 ≤ many) (h2 : many ≤ 6) (h3 : many ≤ size) {o ts : List Int} (A : Asks many o) (hl : ts.length = o.length) (h : AH) : f_deals_by [.int size, .int many, tupI o, lstI ts] h = .ok (.lst ((heardF size many o ts).map tupI)) h := by
  unfold f_deals_by m_deals_by
  simp only [a_mVar, a_mC, a_mUn, a_mBin, a_mIf, a_mAnd, a_mOr, a_mNot, a_mNil, a_mCons, a_mCallF, a_mFn, a_mTst, a_mVal, a_mChain, a_mCmp, a_mSq, a_mOwn, a_mQ, a_mQ2, a_m2Q, a_mLst, a_mDisp, a_mTup, a_mRepL, a_mSeq, a_mSkip, a_mDrop, a_mRet, a_mRetN, a_mIfS, a_mSet, a_mSetL, a_mRaise, a_mNever, a_mFor, a_mLc, a_mIt, a_mFnL, a_mEnum, a_mSlc, a_mLRng, a_mLOf, a_oNone, a_oSome, a_asN, a_asT, a_mFrz, a_mApp, a_mExt, a_mPopAt, a_mPop, a_mSetM, a_mSetT, a_mSetTM, a_mAppM, a_ownAt, a_bnd, a_bnd_exc, a_bndS, a_bndS_exc, a_bndM, a_lift, a_asL_nil, a_asL_cons, a_gSub, a_gNeg, a_gAdd, a_gAddT, a_gAddL, a_gMod, a_gFdiv, a_gPow, a_gLt, a_gLe, a_gGt, a_gGe, a_truth_bl, a_truth_int, a_truth_lst, a_truth_tup, a_truth_non, a_blD, a_sq_tup, a_sq_lst, a_sq_scr, a_it_tup, a_it_lst, a_it_scr, a_qLen, a_qAt, a_qTuple, a_qSum, a_rng1, a_gLRng, a_fMin2, a_fMax2, a_fMin3, a_fAbs, a_fIntB, a_fIntI, a_isi_non, a_isi_bl, a_isi_int, a_isi_str, a_isi_tup, a_isi_lst, a_isN, a_notN, a_ofT, a_ofL, a_qTruth, a_mZip, a_qSumB, a_mPar, a_mAugI, a_mWhile, a_mPut, a_mParL, a_mPar3, a_gRevT, a_gRevL, a_mZip3, a_mIns, a_gTRng, a_mRetO, a_mRetL, a_mCallL, a_mTry, a_mAugS, a_mCount, a_gCount, a_wipe_nil, a_wipe_cons, a_callM, a_callN, List.map_cons, List.map_nil, List.length_cons, List.length_nil, List.cons_append, List.nil_append, Nat.reduceAdd, Nat.reduceSub, Nat.zero_add, List.replicate_succ, List.replicate_zero, List.getElem?_cons_zero, List.getElem?_cons_succ, List.set_cons_zero, List.set_cons_succ, List.append_nil, if_true, if_false, Bool.true_eq_false, Bool.false_eq_true, decide_true, decide_false, Bool.not_true, Bool.not_false, Nat.reduceLeDiff, Nat.reduceLT, Int.reduceLT, Int.reduceLE, Option.map_some, Option.map_none, Int.reduceToNat, true_and, and_true, Int.reduceNeg, e_look_many size many s1 s2 h1 h2 h3, e_look_asks A, e_look_turns hl A.len, e_heard s1 s2 h2 A]
/-- a place, if it is sure -/
def sureD (some_ : List (List Int)) (t : Int) : D := if (ddup (some_.map fun d => at0 d t)).length = 1 then .int ((some_.map fun d => at0 d t).headD 0) else .non
theorem e_sure {size many : Nat} (s1 : 2 ≤ size) (s2 : size ≤ 7) (h1 : 1 ≤ many) (h2 : many ≤ 6) (h3 : many ≤ size) (hp : size ^ many ≤ 3125) {o ts : List Int} (A : Asks many o) (hl : ts.length = o.length) (hne : heardF size many o ts ≠ []) (h : AH) :
    f_sure_places [.int size, .int many, tupI o, lstI ts] h = .ok (.lst ((List.range many).map fun (t : Nat) => sureD (heardF size many o ts) t)) h := by
  have hb : (heardF size many o ts).length ≤ 3125 := Nat.le_trans (List.length_filter_le _ _) (Nat.le_trans (every_len size many) hp)
  have ok : ∀ d ∈ heardF size many o ts, d.length = many := fun d hd => (every_deal_ok size many d (List.mem_filter.mp hd).1).len
  unfold f_sure_places m_sure_places
  simp only [a_mVar, a_mC, a_mUn, a_mBin, a_mIf, a_mAnd, a_mOr, a_mNot, a_mNil, a_mCons, a_mCallF, a_mFn, a_mTst, a_mVal, a_mChain, a_mCmp, a_mSq, a_mOwn, a_mQ, a_mQ2, a_m2Q, a_mLst, a_mDisp, a_mTup, a_mRepL, a_mSeq, a_mSkip, a_mDrop, a_mRet, a_mRetN, a_mIfS, a_mSet, a_mSetL, a_mRaise, a_mNever, a_mFor, a_mLc, a_mIt, a_mFnL, a_mEnum, a_mSlc, a_mLRng, a_mLOf, a_oNone, a_oSome, a_asN, a_asT, a_mFrz, a_mApp, a_mExt, a_mPopAt, a_mPop, a_mSetM, a_mSetT, a_mSetTM, a_mAppM, a_ownAt, a_bnd, a_bnd_exc, a_bndS, a_bndS_exc, a_bndM, a_lift, a_asL_nil, a_asL_cons, a_gSub, a_gNeg, a_gAdd, a_gAddT, a_gAddL, a_gMod, a_gFdiv, a_gPow, a_gLt, a_gLe, a_gGt, a_gGe, a_truth_bl, a_truth_int, a_truth_lst, a_truth_tup, a_truth_non, a_blD, a_sq_tup, a_sq_lst, a_sq_scr, a_it_tup, a_it_lst, a_it_scr, a_qLen, a_qAt, a_qTuple, a_qSum, a_rng1, a_gLRng, a_fMin2, a_fMax2, a_fMin3, a_fAbs, a_fIntB, a_fIntI, a_isi_non, a_isi_bl, a_isi_int, a_isi_str, a_isi_tup, a_isi_lst, a_isN, a_notN, a_ofT, a_ofL, a_qTruth, a_mZip, a_qSumB, a_mPar, a_mAugI, a_mWhile, a_mPut, a_mParL, a_mPar3, a_gRevT, a_gRevL, a_mZip3, a_mIns, a_gTRng, a_mRetO, a_mRetL, a_mCallL, a_mTry, a_mAugS, a_mCount, a_gCount, a_wipe_nil, a_wipe_cons, a_callM, a_callN, List.map_cons, List.map_nil, List.length_cons, List.length_nil, List.cons_append, List.nil_append, Nat.reduceAdd, Nat.reduceSub, Nat.zero_add, List.replicate_succ, List.replicate_zero, List.getElem?_cons_zero, List.getElem?_cons_succ, List.set_cons_zero, List.set_cons_succ, List.append_nil, if_true, if_false, Bool.true_eq_false, Bool.false_eq_true, decide_true, decide_false, Bool.not_true, Bool.not_false, Nat.reduceLeDiff, Nat.reduceLT, Int.reduceLT, Int.reduceLE, Option.map_some, Option.map_none, Int.reduceToNat, true_and, and_true, Int.reduceNeg, e_look_many size many s1 s2 h1 h2 h3, e_look_asks A, e_look_turns hl A.len, e_heard s1 s2 h2 A]
  generalize heardF size many o ts = some_ at hne hb ok
  have he : (some_.map tupI).isEmpty = false := by
    cases some_ with
    | nil => exact absurd rfl hne
    | cons a b => rfl
  simp only [a_mVar, a_mC, a_mUn, a_mBin, a_mIf, a_mAnd, a_mOr, a_mNot, a_mNil, a_mCons, a_mCallF, a_mFn, a_mTst, a_mVal, a_mChain, a_mCmp, a_mSq, a_mOwn, a_mQ, a_mQ2, a_m2Q, a_mLst, a_mDisp, a_mTup, a_mRepL, a_mSeq, a_mSkip, a_mDrop, a_mRet, a_mRetN, a_mIfS, a_mSet, a_mSetL, a_mRaise, a_mNever, a_mFor, a_mLc, a_mIt, a_mFnL, a_mEnum, a_mSlc, a_mLRng, a_mLOf, a_oNone, a_oSome, a_asN, a_asT, a_mFrz, a_mApp, a_mExt, a_mPopAt, a_mPop, a_mSetM, a_mSetT, a_mSetTM, a_mAppM, a_ownAt, a_bnd, a_bnd_exc, a_bndS, a_bndS_exc, a_bndM, a_lift, a_asL_nil, a_asL_cons, a_gSub, a_gNeg, a_gAdd, a_gAddT, a_gAddL, a_gMod, a_gFdiv, a_gPow, a_gLt, a_gLe, a_gGt, a_gGe, a_truth_bl, a_truth_int, a_truth_lst, a_truth_tup, a_truth_non, a_blD, a_sq_tup, a_sq_lst, a_sq_scr, a_it_tup, a_it_lst, a_it_scr, a_qLen, a_qAt, a_qTuple, a_qSum, a_rng1, a_gLRng, a_fMin2, a_fMax2, a_fMin3, a_fAbs, a_fIntB, a_fIntI, a_isi_non, a_isi_bl, a_isi_int, a_isi_str, a_isi_tup, a_isi_lst, a_isN, a_notN, a_ofT, a_ofL, a_qTruth, a_mZip, a_qSumB, a_mPar, a_mAugI, a_mWhile, a_mPut, a_mParL, a_mPar3, a_gRevT, a_gRevL, a_mZip3, a_mIns, a_gTRng, a_mRetO, a_mRetL, a_mCallL, a_mTry, a_mAugS, a_mCount, a_gCount, a_wipe_nil, a_wipe_cons, a_callM, a_callN, List.map_cons, List.map_nil, List.length_cons, List.length_nil, List.cons_append, List.nil_append, Nat.reduceAdd, Nat.reduceSub, Nat.zero_add, List.replicate_succ, List.replicate_zero, List.getElem?_cons_zero, List.getElem?_cons_succ, List.set_cons_zero, List.set_cons_succ, List.append_nil, if_true, if_false, Bool.true_eq_false, Bool.false_eq_true, decide_true, decide_false, Bool.not_true, Bool.not_false, Nat.reduceLeDiff, Nat.reduceLT, Int.reduceLT, Int.reduceLE, Option.map_some, Option.map_none, Int.reduceToNat, true_and, and_true, Int.reduceNeg, he]
  rw [if_pos (show (-1000000 : Int) ≤ (many : Nat) ∧ ((many : Nat) : Int) ≤ 1000000 by omega)]
  simp only [a_mVar, a_mC, a_mUn, a_mBin, a_mIf, a_mAnd, a_mOr, a_mNot, a_mNil, a_mCons, a_mCallF, a_mFn, a_mTst, a_mVal, a_mChain, a_mCmp, a_mSq, a_mOwn, a_mQ, a_mQ2, a_m2Q, a_mLst, a_mDisp, a_mTup, a_mRepL, a_mSeq, a_mSkip, a_mDrop, a_mRet, a_mRetN, a_mIfS, a_mSet, a_mSetL, a_mRaise, a_mNever, a_mFor, a_mLc, a_mIt, a_mFnL, a_mEnum, a_mSlc, a_mLRng, a_mLOf, a_oNone, a_oSome, a_asN, a_asT, a_mFrz, a_mApp, a_mExt, a_mPopAt, a_mPop, a_mSetM, a_mSetT, a_mSetTM, a_mAppM, a_ownAt, a_bnd, a_bnd_exc, a_bndS, a_bndS_exc, a_bndM, a_lift, a_asL_nil, a_asL_cons, a_gSub, a_gNeg, a_gAdd, a_gAddT, a_gAddL, a_gMod, a_gFdiv, a_gPow, a_gLt, a_gLe, a_gGt, a_gGe, a_truth_bl, a_truth_int, a_truth_lst, a_truth_tup, a_truth_non, a_blD, a_sq_tup, a_sq_lst, a_sq_scr, a_it_tup, a_it_lst, a_it_scr, a_qLen, a_qAt, a_qTuple, a_qSum, a_rng1, a_gLRng, a_fMin2, a_fMax2, a_fMin3, a_fAbs, a_fIntB, a_fIntI, a_isi_non, a_isi_bl, a_isi_int, a_isi_str, a_isi_tup, a_isi_lst, a_isN, a_notN, a_ofT, a_ofL, a_qTruth, a_mZip, a_qSumB, a_mPar, a_mAugI, a_mWhile, a_mPut, a_mParL, a_mPar3, a_gRevT, a_gRevL, a_mZip3, a_mIns, a_gTRng, a_mRetO, a_mRetL, a_mCallL, a_mTry, a_mAugS, a_mCount, a_gCount, a_wipe_nil, a_wipe_cons, a_callM, a_callN, List.map_cons, List.map_nil, List.length_cons, List.length_nil, List.cons_append, List.nil_append, Nat.reduceAdd, Nat.reduceSub, Nat.zero_add, List.replicate_succ, List.replicate_zero, List.getElem?_cons_zero, List.getElem?_cons_succ, List.set_cons_zero, List.set_cons_succ, List.append_nil, if_true, if_false, Bool.true_eq_false, Bool.false_eq_true, decide_true, decide_false, Bool.not_true, Bool.not_false, Nat.reduceLeDiff, Nat.reduceLT, Int.reduceLT, Int.reduceLE, Option.map_some, Option.map_none, Int.reduceToNat, true_and, and_true, Int.reduceNeg, Int.toNat_natCast, rangeD_map]
  generalize hL : loopF _ _ _ _ _ = r
  obtain ⟨env', rfl, q6, q7, rfl⟩ := loopF_at (f := fun i : Nat => D.int (0 + i)) hL (fun k env => ∃ q6 q7, env = [.val (.int size), .val (.int many), .val (tupI o), .val (lstI ts), .val (.lst (some_.map tupI)), .own (((List.range many).take k).map fun (t : Nat) => sureD some_ t), q6, q7, .none]) ⟨_, _, rfl⟩ (by
      rintro k x env hk ⟨q6, q7, rfl⟩
      obtain ⟨hkl, rfl⟩ := List.getElem?_eq_some_iff.mp hk
      simp at hkl
      rw [List.getElem_range, Int.zero_add]
      refine ⟨_, rfl, ?_⟩
      simp only [a_mVar, a_mC, a_mUn, a_mBin, a_mIf, a_mAnd, a_mOr, a_mNot, a_mNil, a_mCons, a_mCallF, a_mFn, a_mTst, a_mVal, a_mChain, a_mCmp, a_mSq, a_mOwn, a_mQ, a_mQ2, a_m2Q, a_mLst, a_mDisp, a_mTup, a_mRepL, a_mSeq, a_mSkip, a_mDrop, a_mRet, a_mRetN, a_mIfS, a_mSet, a_mSetL, a_mRaise, a_mNever, a_mFor, a_mLc, a_mIt, a_mFnL, a_mEnum, a_mSlc, a_mLRng, a_mLOf, a_oNone, a_oSome, a_asN, a_asT, a_mFrz, a_mApp, a_mExt, a_mPopAt, a_mPop, a_mSetM, a_mSetT, a_mSetTM, a_mAppM, a_ownAt, a_bnd, a_bnd_exc, a_bndS, a_bndS_exc, a_bndM, a_lift, a_asL_nil, a_asL_cons, a_gSub, a_gNeg, a_gAdd, a_gAddT, a_gAddL, a_gMod, a_gFdiv, a_gPow, a_gLt, a_gLe, a_gGt, a_gGe, a_truth_bl, a_truth_int, a_truth_lst, a_truth_tup, a_truth_non, a_blD, a_sq_tup, a_sq_lst, a_sq_scr, a_it_tup, a_it_lst, a_it_scr, a_qLen, a_qAt, a_qTuple, a_qSum, a_rng1, a_gLRng, a_fMin2, a_fMax2, a_fMin3, a_fAbs, a_fIntB, a_fIntI, a_isi_non, a_isi_bl, a_isi_int, a_isi_str, a_isi_tup, a_isi_lst, a_isN, a_notN, a_ofT, a_ofL, a_qTruth, a_mZip, a_qSumB, a_mPar, a_mAugI, a_mWhile, a_mPut, a_mParL, a_mPar3, a_gRevT, a_gRevL, a_mZip3, a_mIns, a_gTRng, a_mRetO, a_mRetL, a_mCallL, a_mTry, a_mAugS, a_mCount, a_gCount, a_wipe_nil, a_wipe_cons, a_callM, a_callN, List.map_cons, List.map_nil, List.length_cons, List.length_nil, List.cons_append, List.nil_append, Nat.reduceAdd, Nat.reduceSub, Nat.zero_add, List.replicate_succ, List.replicate_zero, List.getElem?_cons_zero, List.getElem?_cons_succ, List.set_cons_zero, List.set_cons_succ, List.append_nil, if_true, if_false, Bool.true_eq_false, Bool.false_eq_true, decide_true, decide_false, Bool.not_true, Bool.not_false, Nat.reduceLeDiff, Nat.reduceLT, Int.reduceLT, Int.reduceLE, Option.map_some, Option.map_none, Int.reduceToNat, true_and, and_true, Int.reduceNeg, List.length_map]
      rw [if_pos (show some_.length ≤ sizeLine by unfold sizeLine; omega)]
      generalize hL : lcLoop _ _ _ _ _ _ = r
      obtain rfl := lc_mp (f := tupI) hL (fun d => D.int (at0 d k)) fun d hd => ⟨_, rfl, by simp only [a_mVar, a_mC, a_mUn, a_mBin, a_mIf, a_mAnd, a_mOr, a_mNot, a_mNil, a_mCons, a_mCallF, a_mFn, a_mTst, a_mVal, a_mChain, a_mCmp, a_mSq, a_mOwn, a_mQ, a_mQ2, a_m2Q, a_mLst, a_mDisp, a_mTup, a_mRepL, a_mSeq, a_mSkip, a_mDrop, a_mRet, a_mRetN, a_mIfS, a_mSet, a_mSetL, a_mRaise, a_mNever, a_mFor, a_mLc, a_mIt, a_mFnL, a_mEnum, a_mSlc, a_mLRng, a_mLOf, a_oNone, a_oSome, a_asN, a_asT, a_mFrz, a_mApp, a_mExt, a_mPopAt, a_mPop, a_mSetM, a_mSetT, a_mSetTM, a_mAppM, a_ownAt, a_bnd, a_bnd_exc, a_bndS, a_bndS_exc, a_bndM, a_lift, a_asL_nil, a_asL_cons, a_gSub, a_gNeg, a_gAdd, a_gAddT, a_gAddL, a_gMod, a_gFdiv, a_gPow, a_gLt, a_gLe, a_gGt, a_gGe, a_truth_bl, a_truth_int, a_truth_lst, a_truth_tup, a_truth_non, a_blD, a_sq_tup, a_sq_lst, a_sq_scr, a_it_tup, a_it_lst, a_it_scr, a_qLen, a_qAt, a_qTuple, a_qSum, a_rng1, a_gLRng, a_fMin2, a_fMax2, a_fMin3, a_fAbs, a_fIntB, a_fIntI, a_isi_non, a_isi_bl, a_isi_int, a_isi_str, a_isi_tup, a_isi_lst, a_isN, a_notN, a_ofT, a_ofL, a_qTruth, a_mZip, a_qSumB, a_mPar, a_mAugI, a_mWhile, a_mPut, a_mParL, a_mPar3, a_gRevT, a_gRevL, a_mZip3, a_mIns, a_gTRng, a_mRetO, a_mRetL, a_mCallL, a_mTry, a_mAugS, a_mCount, a_gCount, a_wipe_nil, a_wipe_cons, a_callM, a_callN, List.map_cons, List.map_nil, List.length_cons, List.length_nil, List.cons_append, List.nil_append, Nat.reduceAdd, Nat.reduceSub, Nat.zero_add, List.replicate_succ, List.replicate_zero, List.getElem?_cons_zero, List.getElem?_cons_succ, List.set_cons_zero, List.set_cons_succ, List.append_nil, if_true, if_false, Bool.true_eq_false, Bool.false_eq_true, decide_true, decide_false, Bool.not_true, Bool.not_false, Nat.reduceLeDiff, Nat.reduceLT, Int.reduceLT, Int.reduceLE, Option.map_some, Option.map_none, Int.reduceToNat, true_and, and_true, Int.reduceNeg, at_in (ok d hd) (show 0 ≤ (k : Int) ∧ (k : Int) < many by omega)]⟩
      clear hL
      rw [show some_.map (fun d => D.int (at0 d k)) = (some_.map fun d => at0 d k).map D.int by rw [List.map_map]; rfl]
      have pl : (some_.map fun d => at0 d (k : Int)).length = some_.length := by rw [List.length_map]
      have ql : ∀ b, qLenSet (b, (some_.map fun d => at0 d (k : Int)).map D.int) = some (.int ((ddup (some_.map fun d => at0 d (k : Int))).length : Nat)) := fun b => by
        unfold qLenSet
        rw [intsOf_map]
        show (if (some_.map fun d => at0 d (k : Int)).length ≤ 4000 then _ else none) = _
        rw [if_pos (by omega)]
      have a0 : atI ((some_.map fun d => at0 d (k : Int)).map D.int) 0 = some (.int ((some_.map fun d => at0 d (k : Int)).headD 0)) := by
        cases some_ with
        | nil => exact absurd rfl hne
        | cons a b => exact atI_n _ 0
      have fin : ∀ x : D, x = sureD some_ k → ∃ env2, SRes.next [.val (.int size), .val (.int many), .val (tupI o), .val (lstI ts), .val (.lst (some_.map tupI)), .own ((((List.range many).take k).map fun (t : Nat) => sureD some_ t) ++ [x]), .val (.int k), .val (.lst ((some_.map fun d => at0 d (k : Int)).map D.int)), .none] h = .next env2 h ∧ ∃ q6 q7, env2 = [.val (.int size), .val (.int many), .val (tupI o), .val (lstI ts), .val (.lst (some_.map tupI)), .own (((List.range many).take (k + 1)).map fun (t : Nat) => sureD some_ t), q6, q7, .none] := fun x ex => by
        refine ⟨_, rfl, .val (.int k), .val (.lst ((some_.map fun d => at0 d (k : Int)).map D.int)), ?_⟩
        rw [List.take_add_one, List.getElem?_range (by omega), ex]
        simp
      simp only [a_mVar, a_mC, a_mUn, a_mBin, a_mIf, a_mAnd, a_mOr, a_mNot, a_mNil, a_mCons, a_mCallF, a_mFn, a_mTst, a_mVal, a_mChain, a_mCmp, a_mSq, a_mOwn, a_mQ, a_mQ2, a_m2Q, a_mLst, a_mDisp, a_mTup, a_mRepL, a_mSeq, a_mSkip, a_mDrop, a_mRet, a_mRetN, a_mIfS, a_mSet, a_mSetL, a_mRaise, a_mNever, a_mFor, a_mLc, a_mIt, a_mFnL, a_mEnum, a_mSlc, a_mLRng, a_mLOf, a_oNone, a_oSome, a_asN, a_asT, a_mFrz, a_mApp, a_mExt, a_mPopAt, a_mPop, a_mSetM, a_mSetT, a_mSetTM, a_mAppM, a_ownAt, a_bnd, a_bnd_exc, a_bndS, a_bndS_exc, a_bndM, a_lift, a_asL_nil, a_asL_cons, a_gSub, a_gNeg, a_gAdd, a_gAddT, a_gAddL, a_gMod, a_gFdiv, a_gPow, a_gLt, a_gLe, a_gGt, a_gGe, a_truth_bl, a_truth_int, a_truth_lst, a_truth_tup, a_truth_non, a_blD, a_sq_tup, a_sq_lst, a_sq_scr, a_it_tup, a_it_lst, a_it_scr, a_qLen, a_qAt, a_qTuple, a_qSum, a_rng1, a_gLRng, a_fMin2, a_fMax2, a_fMin3, a_fAbs, a_fIntB, a_fIntI, a_isi_non, a_isi_bl, a_isi_int, a_isi_str, a_isi_tup, a_isi_lst, a_isN, a_notN, a_ofT, a_ofL, a_qTruth, a_mZip, a_qSumB, a_mPar, a_mAugI, a_mWhile, a_mPut, a_mParL, a_mPar3, a_gRevT, a_gRevL, a_mZip3, a_mIns, a_gTRng, a_mRetO, a_mRetL, a_mCallL, a_mTry, a_mAugS, a_mCount, a_gCount, a_wipe_nil, a_wipe_cons, a_callM, a_callN, List.map_cons, List.map_nil, List.length_cons, List.length_nil, List.cons_append, List.nil_append, Nat.reduceAdd, Nat.reduceSub, Nat.zero_add, List.replicate_succ, List.replicate_zero, List.getElem?_cons_zero, List.getElem?_cons_succ, List.set_cons_zero, List.set_cons_succ, List.append_nil, if_true, if_false, Bool.true_eq_false, Bool.false_eq_true, decide_true, decide_false, Bool.not_true, Bool.not_false, Nat.reduceLeDiff, Nat.reduceLT, Int.reduceLT, Int.reduceLE, Option.map_some, Option.map_none, Int.reduceToNat, true_and, and_true, Int.reduceNeg, ql, b_eqI]
      by_cases z : (ddup (some_.map fun d => at0 d (k : Int))).length = 1
      · simp only [a_mVar, a_mC, a_mUn, a_mBin, a_mIf, a_mAnd, a_mOr, a_mNot, a_mNil, a_mCons, a_mCallF, a_mFn, a_mTst, a_mVal, a_mChain, a_mCmp, a_mSq, a_mOwn, a_mQ, a_mQ2, a_m2Q, a_mLst, a_mDisp, a_mTup, a_mRepL, a_mSeq, a_mSkip, a_mDrop, a_mRet, a_mRetN, a_mIfS, a_mSet, a_mSetL, a_mRaise, a_mNever, a_mFor, a_mLc, a_mIt, a_mFnL, a_mEnum, a_mSlc, a_mLRng, a_mLOf, a_oNone, a_oSome, a_asN, a_asT, a_mFrz, a_mApp, a_mExt, a_mPopAt, a_mPop, a_mSetM, a_mSetT, a_mSetTM, a_mAppM, a_ownAt, a_bnd, a_bnd_exc, a_bndS, a_bndS_exc, a_bndM, a_lift, a_asL_nil, a_asL_cons, a_gSub, a_gNeg, a_gAdd, a_gAddT, a_gAddL, a_gMod, a_gFdiv, a_gPow, a_gLt, a_gLe, a_gGt, a_gGe, a_truth_bl, a_truth_int, a_truth_lst, a_truth_tup, a_truth_non, a_blD, a_sq_tup, a_sq_lst, a_sq_scr, a_it_tup, a_it_lst, a_it_scr, a_qLen, a_qAt, a_qTuple, a_qSum, a_rng1, a_gLRng, a_fMin2, a_fMax2, a_fMin3, a_fAbs, a_fIntB, a_fIntI, a_isi_non, a_isi_bl, a_isi_int, a_isi_str, a_isi_tup, a_isi_lst, a_isN, a_notN, a_ofT, a_ofL, a_qTruth, a_mZip, a_qSumB, a_mPar, a_mAugI, a_mWhile, a_mPut, a_mParL, a_mPar3, a_gRevT, a_gRevL, a_mZip3, a_mIns, a_gTRng, a_mRetO, a_mRetL, a_mCallL, a_mTry, a_mAugS, a_mCount, a_gCount, a_wipe_nil, a_wipe_cons, a_callM, a_callN, List.map_cons, List.map_nil, List.length_cons, List.length_nil, List.cons_append, List.nil_append, Nat.reduceAdd, Nat.reduceSub, Nat.zero_add, List.replicate_succ, List.replicate_zero, List.getElem?_cons_zero, List.getElem?_cons_succ, List.set_cons_zero, List.set_cons_succ, List.append_nil, if_true, if_false, Bool.true_eq_false, Bool.false_eq_true, decide_true, decide_false, Bool.not_true, Bool.not_false, Nat.reduceLeDiff, Nat.reduceLT, Int.reduceLT, Int.reduceLE, Option.map_some, Option.map_none, Int.reduceToNat, true_and, and_true, Int.reduceNeg, decide_eq_true (show (((ddup (some_.map fun d => at0 d (k : Int))).length : Nat) : Int) = 1 by omega), a0, List.length_map, List.length_take, List.length_range]
        rw [if_pos (show min k many < sizeLine by unfold sizeLine; omega)]
        refine fin _ ?_
        unfold sureD
        rw [if_pos z]
      · simp only [a_mVar, a_mC, a_mUn, a_mBin, a_mIf, a_mAnd, a_mOr, a_mNot, a_mNil, a_mCons, a_mCallF, a_mFn, a_mTst, a_mVal, a_mChain, a_mCmp, a_mSq, a_mOwn, a_mQ, a_mQ2, a_m2Q, a_mLst, a_mDisp, a_mTup, a_mRepL, a_mSeq, a_mSkip, a_mDrop, a_mRet, a_mRetN, a_mIfS, a_mSet, a_mSetL, a_mRaise, a_mNever, a_mFor, a_mLc, a_mIt, a_mFnL, a_mEnum, a_mSlc, a_mLRng, a_mLOf, a_oNone, a_oSome, a_asN, a_asT, a_mFrz, a_mApp, a_mExt, a_mPopAt, a_mPop, a_mSetM, a_mSetT, a_mSetTM, a_mAppM, a_ownAt, a_bnd, a_bnd_exc, a_bndS, a_bndS_exc, a_bndM, a_lift, a_asL_nil, a_asL_cons, a_gSub, a_gNeg, a_gAdd, a_gAddT, a_gAddL, a_gMod, a_gFdiv, a_gPow, a_gLt, a_gLe, a_gGt, a_gGe, a_truth_bl, a_truth_int, a_truth_lst, a_truth_tup, a_truth_non, a_blD, a_sq_tup, a_sq_lst, a_sq_scr, a_it_tup, a_it_lst, a_it_scr, a_qLen, a_qAt, a_qTuple, a_qSum, a_rng1, a_gLRng, a_fMin2, a_fMax2, a_fMin3, a_fAbs, a_fIntB, a_fIntI, a_isi_non, a_isi_bl, a_isi_int, a_isi_str, a_isi_tup, a_isi_lst, a_isN, a_notN, a_ofT, a_ofL, a_qTruth, a_mZip, a_qSumB, a_mPar, a_mAugI, a_mWhile, a_mPut, a_mParL, a_mPar3, a_gRevT, a_gRevL, a_mZip3, a_mIns, a_gTRng, a_mRetO, a_mRetL, a_mCallL, a_mTry, a_mAugS, a_mCount, a_gCount, a_wipe_nil, a_wipe_cons, a_callM, a_callN, List.map_cons, List.map_nil, List.length_cons, List.length_nil, List.cons_append, List.nil_append, Nat.reduceAdd, Nat.reduceSub, Nat.zero_add, List.replicate_succ, List.replicate_zero, List.getElem?_cons_zero, List.getElem?_cons_succ, List.set_cons_zero, List.set_cons_succ, List.append_nil, if_true, if_false, Bool.true_eq_false, Bool.false_eq_true, decide_true, decide_false, Bool.not_true, Bool.not_false, Nat.reduceLeDiff, Nat.reduceLT, Int.reduceLT, Int.reduceLE, Option.map_some, Option.map_none, Int.reduceToNat, true_and, and_true, Int.reduceNeg, decide_eq_false (show ¬ (((ddup (some_.map fun d => at0 d (k : Int))).length : Nat) : Int) = 1 by omega), List.length_map, List.length_take, List.length_range]
        rw [if_pos (show min k many < sizeLine by unfold sizeLine; omega)]
        refine fin _ ?_
        unfold sureD
        rw [if_neg z])
  simp only [a_mVar, a_mC, a_mUn, a_mBin, a_mIf, a_mAnd, a_mOr, a_mNot, a_mNil, a_mCons, a_mCallF, a_mFn, a_mTst, a_mVal, a_mChain, a_mCmp, a_mSq, a_mOwn, a_mQ, a_mQ2, a_m2Q, a_mLst, a_mDisp, a_mTup, a_mRepL, a_mSeq, a_mSkip, a_mDrop, a_mRet, a_mRetN, a_mIfS, a_mSet, a_mSetL, a_mRaise, a_mNever, a_mFor, a_mLc, a_mIt, a_mFnL, a_mEnum, a_mSlc, a_mLRng, a_mLOf, a_oNone, a_oSome, a_asN, a_asT, a_mFrz, a_mApp, a_mExt, a_mPopAt, a_mPop, a_mSetM, a_mSetT, a_mSetTM, a_mAppM, a_ownAt, a_bnd, a_bnd_exc, a_bndS, a_bndS_exc, a_bndM, a_lift, a_asL_nil, a_asL_cons, a_gSub, a_gNeg, a_gAdd, a_gAddT, a_gAddL, a_gMod, a_gFdiv, a_gPow, a_gLt, a_gLe, a_gGt, a_gGe, a_truth_bl, a_truth_int, a_truth_lst, a_truth_tup, a_truth_non, a_blD, a_sq_tup, a_sq_lst, a_sq_scr, a_it_tup, a_it_lst, a_it_scr, a_qLen, a_qAt, a_qTuple, a_qSum, a_rng1, a_gLRng, a_fMin2, a_fMax2, a_fMin3, a_fAbs, a_fIntB, a_fIntI, a_isi_non, a_isi_bl, a_isi_int, a_isi_str, a_isi_tup, a_isi_lst, a_isN, a_notN, a_ofT, a_ofL, a_qTruth, a_mZip, a_qSumB, a_mPar, a_mAugI, a_mWhile, a_mPut, a_mParL, a_mPar3, a_gRevT, a_gRevL, a_mZip3, a_mIns, a_gTRng, a_mRetO, a_mRetL, a_mCallL, a_mTry, a_mAugS, a_mCount, a_gCount, a_wipe_nil, a_wipe_cons, a_callM, a_callN, List.map_cons, List.map_nil, List.length_cons, List.length_nil, List.cons_append, List.nil_append, Nat.reduceAdd, Nat.reduceSub, Nat.zero_add, List.replicate_succ, List.replicate_zero, List.getElem?_cons_zero, List.getElem?_cons_succ, List.set_cons_zero, List.set_cons_succ, List.append_nil, if_true, if_false, Bool.true_eq_false, Bool.false_eq_true, decide_true, decide_false, Bool.not_true, Bool.not_false, Nat.reduceLeDiff, Nat.reduceLT, Int.reduceLT, Int.reduceLE, Option.map_some, Option.map_none, Int.reduceToNat, true_and, and_true, Int.reduceNeg, List.length_range]
  rw [List.take_of_length_le (by simp)]
/-- where two deals part -/
def partD (l m : List Int) : D := match partsF l m with
  | [] => .non
  | k :: _ => .int k
theorem e_parting {size many : Nat} (s1 : 2 ≤ size) (s2 : size ≤ 7) (h1 : 1 ≤ many) (h2 : many ≤ 6) {d d' : List Int} (dl : Deal size many d) (dl' : Deal size many d') {o : List Int} (A : Asks many o) (h : AH) : f_parting [.int size, tupI d, tupI d', tupI o] h = .ok (partD (turnsF size d 0 o) (turnsF size d' 0 o)) h := by
  have lc := e_look_asks A h
  rw [← dl.len] at lc
  have al := A.len
  have l1 := turns_len size d o 0
  have l2 := turns_len size d' o 0
  unfold f_parting m_parting
  simp only [a_mVar, a_mC, a_mUn, a_mBin, a_mIf, a_mAnd, a_mOr, a_mNot, a_mNil, a_mCons, a_mCallF, a_mFn, a_mTst, a_mVal, a_mChain, a_mCmp, a_mSq, a_mOwn, a_mQ, a_mQ2, a_m2Q, a_mLst, a_mDisp, a_mTup, a_mRepL, a_mSeq, a_mSkip, a_mDrop, a_mRet, a_mRetN, a_mIfS, a_mSet, a_mSetL, a_mRaise, a_mNever, a_mFor, a_mLc, a_mIt, a_mFnL, a_mEnum, a_mSlc, a_mLRng, a_mLOf, a_oNone, a_oSome, a_asN, a_asT, a_mFrz, a_mApp, a_mExt, a_mPopAt, a_mPop, a_mSetM, a_mSetT, a_mSetTM, a_mAppM, a_ownAt, a_bnd, a_bnd_exc, a_bndS, a_bndS_exc, a_bndM, a_lift, a_asL_nil, a_asL_cons, a_gSub, a_gNeg, a_gAdd, a_gAddT, a_gAddL, a_gMod, a_gFdiv, a_gPow, a_gLt, a_gLe, a_gGt, a_gGe, a_truth_bl, a_truth_int, a_truth_lst, a_truth_tup, a_truth_non, a_blD, a_sq_tup, a_sq_lst, a_sq_scr, a_it_tup, a_it_lst, a_it_scr, a_qLen, a_qAt, a_qTuple, a_qSum, a_rng1, a_gLRng, a_fMin2, a_fMax2, a_fMin3, a_fAbs, a_fIntB, a_fIntI, a_isi_non, a_isi_bl, a_isi_int, a_isi_str, a_isi_tup, a_isi_lst, a_isN, a_notN, a_ofT, a_ofL, a_qTruth, a_mZip, a_qSumB, a_mPar, a_mAugI, a_mWhile, a_mPut, a_mParL, a_mPar3, a_gRevT, a_gRevL, a_mZip3, a_mIns, a_gTRng, a_mRetO, a_mRetL, a_mCallL, a_mTry, a_mAugS, a_mCount, a_gCount, a_wipe_nil, a_wipe_cons, a_callM, a_callN, List.map_cons, List.map_nil, List.length_cons, List.length_nil, List.cons_append, List.nil_append, Nat.reduceAdd, Nat.reduceSub, Nat.zero_add, List.replicate_succ, List.replicate_zero, List.getElem?_cons_zero, List.getElem?_cons_succ, List.set_cons_zero, List.set_cons_succ, List.append_nil, if_true, if_false, Bool.true_eq_false, Bool.false_eq_true, decide_true, decide_false, Bool.not_true, Bool.not_false, Nat.reduceLeDiff, Nat.reduceLT, Int.reduceLT, Int.reduceLE, Option.map_some, Option.map_none, Int.reduceToNat, true_and, and_true, Int.reduceNeg, e_look dl s1 s2 h1 h2, e_is_deal dl' h1 h2, List.length_map, b_neI, decide_eq_true (show ((d'.length : Nat) : Int) = (d.length : Nat) by rw [dl.len, dl'.len]), lc, e_turns_told s1 dl.len A.th (by omega), e_turns_told s1 dl'.len A.th (by omega)]
  rw [if_pos (show (-1000000 : Int) ≤ (o.length : Nat) ∧ ((o.length : Nat) : Int) ≤ 1000000 by omega)]
  simp only [a_mVar, a_mC, a_mUn, a_mBin, a_mIf, a_mAnd, a_mOr, a_mNot, a_mNil, a_mCons, a_mCallF, a_mFn, a_mTst, a_mVal, a_mChain, a_mCmp, a_mSq, a_mOwn, a_mQ, a_mQ2, a_m2Q, a_mLst, a_mDisp, a_mTup, a_mRepL, a_mSeq, a_mSkip, a_mDrop, a_mRet, a_mRetN, a_mIfS, a_mSet, a_mSetL, a_mRaise, a_mNever, a_mFor, a_mLc, a_mIt, a_mFnL, a_mEnum, a_mSlc, a_mLRng, a_mLOf, a_oNone, a_oSome, a_asN, a_asT, a_mFrz, a_mApp, a_mExt, a_mPopAt, a_mPop, a_mSetM, a_mSetT, a_mSetTM, a_mAppM, a_ownAt, a_bnd, a_bnd_exc, a_bndS, a_bndS_exc, a_bndM, a_lift, a_asL_nil, a_asL_cons, a_gSub, a_gNeg, a_gAdd, a_gAddT, a_gAddL, a_gMod, a_gFdiv, a_gPow, a_gLt, a_gLe, a_gGt, a_gGe, a_truth_bl, a_truth_int, a_truth_lst, a_truth_tup, a_truth_non, a_blD, a_sq_tup, a_sq_lst, a_sq_scr, a_it_tup, a_it_lst, a_it_scr, a_qLen, a_qAt, a_qTuple, a_qSum, a_rng1, a_gLRng, a_fMin2, a_fMax2, a_fMin3, a_fAbs, a_fIntB, a_fIntI, a_isi_non, a_isi_bl, a_isi_int, a_isi_str, a_isi_tup, a_isi_lst, a_isN, a_notN, a_ofT, a_ofL, a_qTruth, a_mZip, a_qSumB, a_mPar, a_mAugI, a_mWhile, a_mPut, a_mParL, a_mPar3, a_gRevT, a_gRevL, a_mZip3, a_mIns, a_gTRng, a_mRetO, a_mRetL, a_mCallL, a_mTry, a_mAugS, a_mCount, a_gCount, a_wipe_nil, a_wipe_cons, a_callM, a_callN, List.map_cons, List.map_nil, List.length_cons, List.length_nil, List.cons_append, List.nil_append, Nat.reduceAdd, Nat.reduceSub, Nat.zero_add, List.replicate_succ, List.replicate_zero, List.getElem?_cons_zero, List.getElem?_cons_succ, List.set_cons_zero, List.set_cons_succ, List.append_nil, if_true, if_false, Bool.true_eq_false, Bool.false_eq_true, decide_true, decide_false, Bool.not_true, Bool.not_false, Nat.reduceLeDiff, Nat.reduceLT, Int.reduceLT, Int.reduceLE, Option.map_some, Option.map_none, Int.reduceToNat, true_and, and_true, Int.reduceNeg, Int.toNat_natCast, rangeD_map, List.length_map, List.length_range]
  rw [if_pos (show o.length ≤ sizeLine by unfold sizeLine; omega)]
  generalize turnsF size d 0 o = l at l1
  generalize turnsF size d' 0 o = m at l2
  have at_ : ∀ (x : List Int), x.length = o.length → ∀ i : Nat, i < o.length → atI (x.map D.int) (0 + (i : Int)) = some (.int (x.getD i 0)) := fun x hx i hi => by
    rw [Int.zero_add, atI_n, List.getElem?_map, List.getElem?_eq_getElem (by omega)]
    simp [List.getD, show i < x.length by omega]
  generalize hL : lcLoop _ _ _ _ _ _ = r
  obtain rfl := lc_at (f := fun i : Nat => D.int (0 + i)) hL (fun i : Nat => !decide (l.getD i 0 = m.getD i 0)) (fun i : Nat => D.int i) fun i hi => ⟨_, rfl, by
    have := List.mem_range.mp hi
    simp only [a_mVar, a_mC, a_mUn, a_mBin, a_mIf, a_mAnd, a_mOr, a_mNot, a_mNil, a_mCons, a_mCallF, a_mFn, a_mTst, a_mVal, a_mChain, a_mCmp, a_mSq, a_mOwn, a_mQ, a_mQ2, a_m2Q, a_mLst, a_mDisp, a_mTup, a_mRepL, a_mSeq, a_mSkip, a_mDrop, a_mRet, a_mRetN, a_mIfS, a_mSet, a_mSetL, a_mRaise, a_mNever, a_mFor, a_mLc, a_mIt, a_mFnL, a_mEnum, a_mSlc, a_mLRng, a_mLOf, a_oNone, a_oSome, a_asN, a_asT, a_mFrz, a_mApp, a_mExt, a_mPopAt, a_mPop, a_mSetM, a_mSetT, a_mSetTM, a_mAppM, a_ownAt, a_bnd, a_bnd_exc, a_bndS, a_bndS_exc, a_bndM, a_lift, a_asL_nil, a_asL_cons, a_gSub, a_gNeg, a_gAdd, a_gAddT, a_gAddL, a_gMod, a_gFdiv, a_gPow, a_gLt, a_gLe, a_gGt, a_gGe, a_truth_bl, a_truth_int, a_truth_lst, a_truth_tup, a_truth_non, a_blD, a_sq_tup, a_sq_lst, a_sq_scr, a_it_tup, a_it_lst, a_it_scr, a_qLen, a_qAt, a_qTuple, a_qSum, a_rng1, a_gLRng, a_fMin2, a_fMax2, a_fMin3, a_fAbs, a_fIntB, a_fIntI, a_isi_non, a_isi_bl, a_isi_int, a_isi_str, a_isi_tup, a_isi_lst, a_isN, a_notN, a_ofT, a_ofL, a_qTruth, a_mZip, a_qSumB, a_mPar, a_mAugI, a_mWhile, a_mPut, a_mParL, a_mPar3, a_gRevT, a_gRevL, a_mZip3, a_mIns, a_gTRng, a_mRetO, a_mRetL, a_mCallL, a_mTry, a_mAugS, a_mCount, a_gCount, a_wipe_nil, a_wipe_cons, a_callM, a_callN, List.map_cons, List.map_nil, List.length_cons, List.length_nil, List.cons_append, List.nil_append, Nat.reduceAdd, Nat.reduceSub, Nat.zero_add, List.replicate_succ, List.replicate_zero, List.getElem?_cons_zero, List.getElem?_cons_succ, List.set_cons_zero, List.set_cons_succ, List.append_nil, if_true, if_false, Bool.true_eq_false, Bool.false_eq_true, decide_true, decide_false, Bool.not_true, Bool.not_false, Nat.reduceLeDiff, Nat.reduceLT, Int.reduceLT, Int.reduceLE, Option.map_some, Option.map_none, Int.reduceToNat, true_and, and_true, Int.reduceNeg, at_ l l1 i this, at_ m l2 i this, b_neI], fun _ => by simp only [a_mVar, a_mC, a_mUn, a_mBin, a_mIf, a_mAnd, a_mOr, a_mNot, a_mNil, a_mCons, a_mCallF, a_mFn, a_mTst, a_mVal, a_mChain, a_mCmp, a_mSq, a_mOwn, a_mQ, a_mQ2, a_m2Q, a_mLst, a_mDisp, a_mTup, a_mRepL, a_mSeq, a_mSkip, a_mDrop, a_mRet, a_mRetN, a_mIfS, a_mSet, a_mSetL, a_mRaise, a_mNever, a_mFor, a_mLc, a_mIt, a_mFnL, a_mEnum, a_mSlc, a_mLRng, a_mLOf, a_oNone, a_oSome, a_asN, a_asT, a_mFrz, a_mApp, a_mExt, a_mPopAt, a_mPop, a_mSetM, a_mSetT, a_mSetTM, a_mAppM, a_ownAt, a_bnd, a_bnd_exc, a_bndS, a_bndS_exc, a_bndM, a_lift, a_asL_nil, a_asL_cons, a_gSub, a_gNeg, a_gAdd, a_gAddT, a_gAddL, a_gMod, a_gFdiv, a_gPow, a_gLt, a_gLe, a_gGt, a_gGe, a_truth_bl, a_truth_int, a_truth_lst, a_truth_tup, a_truth_non, a_blD, a_sq_tup, a_sq_lst, a_sq_scr, a_it_tup, a_it_lst, a_it_scr, a_qLen, a_qAt, a_qTuple, a_qSum, a_rng1, a_gLRng, a_fMin2, a_fMax2, a_fMin3, a_fAbs, a_fIntB, a_fIntI, a_isi_non, a_isi_bl, a_isi_int, a_isi_str, a_isi_tup, a_isi_lst, a_isN, a_notN, a_ofT, a_ofL, a_qTruth, a_mZip, a_qSumB, a_mPar, a_mAugI, a_mWhile, a_mPut, a_mParL, a_mPar3, a_gRevT, a_gRevL, a_mZip3, a_mIns, a_gTRng, a_mRetO, a_mRetL, a_mCallL, a_mTry, a_mAugS, a_mCount, a_gCount, a_wipe_nil, a_wipe_cons, a_callM, a_callN, List.map_cons, List.map_nil, List.length_cons, List.length_nil, List.cons_append, List.nil_append, Nat.reduceAdd, Nat.reduceSub, Nat.zero_add, List.replicate_succ, List.replicate_zero, List.getElem?_cons_zero, List.getElem?_cons_succ, List.set_cons_zero, List.set_cons_succ, List.append_nil, if_true, if_false, Bool.true_eq_false, Bool.false_eq_true, decide_true, decide_false, Bool.not_true, Bool.not_false, Nat.reduceLeDiff, Nat.reduceLT, Int.reduceLT, Int.reduceLE, Option.map_some, Option.map_none, Int.reduceToNat, true_and, and_true, Int.reduceNeg, Int.zero_add]⟩
  clear hL
  have pf : (List.range o.length).filter (fun i : Nat => !decide (l.getD i 0 = m.getD i 0)) = partsF l m := by unfold partsF; rw [l1]
  have pl : (partsF l m).length ≤ o.length := by
    rw [← pf]
    have := List.length_filter_le (fun i : Nat => !decide (l.getD i 0 = m.getD i 0)) (List.range o.length)
    rw [List.length_range] at this
    exact this
  rw [pf]
  simp only [a_mVar, a_mC, a_mUn, a_mBin, a_mIf, a_mAnd, a_mOr, a_mNot, a_mNil, a_mCons, a_mCallF, a_mFn, a_mTst, a_mVal, a_mChain, a_mCmp, a_mSq, a_mOwn, a_mQ, a_mQ2, a_m2Q, a_mLst, a_mDisp, a_mTup, a_mRepL, a_mSeq, a_mSkip, a_mDrop, a_mRet, a_mRetN, a_mIfS, a_mSet, a_mSetL, a_mRaise, a_mNever, a_mFor, a_mLc, a_mIt, a_mFnL, a_mEnum, a_mSlc, a_mLRng, a_mLOf, a_oNone, a_oSome, a_asN, a_asT, a_mFrz, a_mApp, a_mExt, a_mPopAt, a_mPop, a_mSetM, a_mSetT, a_mSetTM, a_mAppM, a_ownAt, a_bnd, a_bnd_exc, a_bndS, a_bndS_exc, a_bndM, a_lift, a_asL_nil, a_asL_cons, a_gSub, a_gNeg, a_gAdd, a_gAddT, a_gAddL, a_gMod, a_gFdiv, a_gPow, a_gLt, a_gLe, a_gGt, a_gGe, a_truth_bl, a_truth_int, a_truth_lst, a_truth_tup, a_truth_non, a_blD, a_sq_tup, a_sq_lst, a_sq_scr, a_it_tup, a_it_lst, a_it_scr, a_qLen, a_qAt, a_qTuple, a_qSum, a_rng1, a_gLRng, a_fMin2, a_fMax2, a_fMin3, a_fAbs, a_fIntB, a_fIntI, a_isi_non, a_isi_bl, a_isi_int, a_isi_str, a_isi_tup, a_isi_lst, a_isN, a_notN, a_ofT, a_ofL, a_qTruth, a_mZip, a_qSumB, a_mPar, a_mAugI, a_mWhile, a_mPut, a_mParL, a_mPar3, a_gRevT, a_gRevL, a_mZip3, a_mIns, a_gTRng, a_mRetO, a_mRetL, a_mCallL, a_mTry, a_mAugS, a_mCount, a_gCount, a_wipe_nil, a_wipe_cons, a_callM, a_callN, List.map_cons, List.map_nil, List.length_cons, List.length_nil, List.cons_append, List.nil_append, Nat.reduceAdd, Nat.reduceSub, Nat.zero_add, List.replicate_succ, List.replicate_zero, List.getElem?_cons_zero, List.getElem?_cons_succ, List.set_cons_zero, List.set_cons_succ, List.append_nil, if_true, if_false, Bool.true_eq_false, Bool.false_eq_true, decide_true, decide_false, Bool.not_true, Bool.not_false, Nat.reduceLeDiff, Nat.reduceLT, Int.reduceLT, Int.reduceLE, Option.map_some, Option.map_none, Int.reduceToNat, true_and, and_true, Int.reduceNeg, List.length_map]
  rw [if_pos (show (partsF l m).length + (0 + 1) ≤ sizeLine by unfold sizeLine; omega)]
  unfold partD
  cases partsF l m with
  | nil => rfl
  | cons k r =>
    simp only [a_mVar, a_mC, a_mUn, a_mBin, a_mIf, a_mAnd, a_mOr, a_mNot, a_mNil, a_mCons, a_mCallF, a_mFn, a_mTst, a_mVal, a_mChain, a_mCmp, a_mSq, a_mOwn, a_mQ, a_mQ2, a_m2Q, a_mLst, a_mDisp, a_mTup, a_mRepL, a_mSeq, a_mSkip, a_mDrop, a_mRet, a_mRetN, a_mIfS, a_mSet, a_mSetL, a_mRaise, a_mNever, a_mFor, a_mLc, a_mIt, a_mFnL, a_mEnum, a_mSlc, a_mLRng, a_mLOf, a_oNone, a_oSome, a_asN, a_asT, a_mFrz, a_mApp, a_mExt, a_mPopAt, a_mPop, a_mSetM, a_mSetT, a_mSetTM, a_mAppM, a_ownAt, a_bnd, a_bnd_exc, a_bndS, a_bndS_exc, a_bndM, a_lift, a_asL_nil, a_asL_cons, a_gSub, a_gNeg, a_gAdd, a_gAddT, a_gAddL, a_gMod, a_gFdiv, a_gPow, a_gLt, a_gLe, a_gGt, a_gGe, a_truth_bl, a_truth_int, a_truth_lst, a_truth_tup, a_truth_non, a_blD, a_sq_tup, a_sq_lst, a_sq_scr, a_it_tup, a_it_lst, a_it_scr, a_qLen, a_qAt, a_qTuple, a_qSum, a_rng1, a_gLRng, a_fMin2, a_fMax2, a_fMin3, a_fAbs, a_fIntB, a_fIntI, a_isi_non, a_isi_bl, a_isi_int, a_isi_str, a_isi_tup, a_isi_lst, a_isN, a_notN, a_ofT, a_ofL, a_qTruth, a_mZip, a_qSumB, a_mPar, a_mAugI, a_mWhile, a_mPut, a_mParL, a_mPar3, a_gRevT, a_gRevL, a_mZip3, a_mIns, a_gTRng, a_mRetO, a_mRetL, a_mCallL, a_mTry, a_mAugS, a_mCount, a_gCount, a_wipe_nil, a_wipe_cons, a_callM, a_callN, List.map_cons, List.map_nil, List.length_cons, List.length_nil, List.cons_append, List.nil_append, Nat.reduceAdd, Nat.reduceSub, Nat.zero_add, List.replicate_succ, List.replicate_zero, List.getElem?_cons_zero, List.getElem?_cons_succ, List.set_cons_zero, List.set_cons_succ, List.append_nil, if_true, if_false, Bool.true_eq_false, Bool.false_eq_true, decide_true, decide_false, Bool.not_true, Bool.not_false, Nat.reduceLeDiff, Nat.reduceLT, Int.reduceLT, Int.reduceLE, Option.map_some, Option.map_none, Int.reduceToNat, true_and, and_true, Int.reduceNeg]
    rw [show atI (D.int ((k : Nat) : Int) :: (r.map (fun i : Nat => D.int i) ++ [D.non])) 0 = some (D.int ((k : Nat) : Int)) from atI_n _ 0]
    rfl
theorem part_non {l m : List Int} (h : l.length = m.length) : isNonD (partD l m) = decide (l = m) := by
  have := parts_nil h
  unfold partD
  cases e : partsF l m with
  | nil => rw [decide_eq_true (this.mp e)]; rfl
  | cons k r => rw [decide_eq_false fun q => by rw [this.mpr q] at e; cases e]; rfl
theorem b_neB (a b : Bool) : gNe (.bl a) (.bl b) = some (!decide (a = b)) := by cases a <;> cases b <;> rfl
theorem ne_part (l m : List Int) : gNe (partD l m) (partD l m) = some false := by
  unfold partD
  cases partsF l m with
  | nil => rfl
  | cons k r => rw [b_neI]; simp

theorem run_turned {size many : Nat} (s1 : 2 ≤ size) (s2 : size ≤ 7) {d : List Int} (dl : Deal size many d) {o : List Int} (A : Asks many o) (h : AH) : m__law_turned [.val (.int size), .val (tupI d), .val (tupI o), .none, .none, .none] h = .retN ((turnsF size d 0 o).map .int) h := by
  have al := A.len
  unfold m__law_turned
  simp only [a_mVar, a_mC, a_mUn, a_mBin, a_mIf, a_mAnd, a_mOr, a_mNot, a_mNil, a_mCons, a_mCallF, a_mFn, a_mTst, a_mVal, a_mChain, a_mCmp, a_mSq, a_mOwn, a_mQ, a_mQ2, a_m2Q, a_mLst, a_mDisp, a_mTup, a_mRepL, a_mSeq, a_mSkip, a_mDrop, a_mRet, a_mRetN, a_mIfS, a_mSet, a_mSetL, a_mRaise, a_mNever, a_mFor, a_mLc, a_mIt, a_mFnL, a_mEnum, a_mSlc, a_mLRng, a_mLOf, a_oNone, a_oSome, a_asN, a_asT, a_mFrz, a_mApp, a_mExt, a_mPopAt, a_mPop, a_mSetM, a_mSetT, a_mSetTM, a_mAppM, a_ownAt, a_bnd, a_bnd_exc, a_bndS, a_bndS_exc, a_bndM, a_lift, a_asL_nil, a_asL_cons, a_gSub, a_gNeg, a_gAdd, a_gAddT, a_gAddL, a_gMod, a_gFdiv, a_gPow, a_gLt, a_gLe, a_gGt, a_gGe, a_truth_bl, a_truth_int, a_truth_lst, a_truth_tup, a_truth_non, a_blD, a_sq_tup, a_sq_lst, a_sq_scr, a_it_tup, a_it_lst, a_it_scr, a_qLen, a_qAt, a_qTuple, a_qSum, a_rng1, a_gLRng, a_fMin2, a_fMax2, a_fMin3, a_fAbs, a_fIntB, a_fIntI, a_isi_non, a_isi_bl, a_isi_int, a_isi_str, a_isi_tup, a_isi_lst, a_isN, a_notN, a_ofT, a_ofL, a_qTruth, a_mZip, a_qSumB, a_mPar, a_mAugI, a_mWhile, a_mPut, a_mParL, a_mPar3, a_gRevT, a_gRevL, a_mZip3, a_mIns, a_gTRng, a_mRetO, a_mRetL, a_mCallL, a_mTry, a_mAugS, a_mCount, a_gCount, a_wipe_nil, a_wipe_cons, a_callM, a_callN, List.map_cons, List.map_nil, List.length_cons, List.length_nil, List.cons_append, List.nil_append, Nat.reduceAdd, Nat.reduceSub, Nat.zero_add, List.replicate_succ, List.replicate_zero, List.getElem?_cons_zero, List.getElem?_cons_succ, List.set_cons_zero, List.set_cons_succ, List.append_nil, if_true, if_false, Bool.true_eq_false, Bool.false_eq_true, decide_true, decide_false, Bool.not_true, Bool.not_false, Nat.reduceLeDiff, Nat.reduceLT, Int.reduceLT, Int.reduceLE, Option.map_some, Option.map_none, Int.reduceToNat, true_and, and_true, Int.reduceNeg]
  generalize hL : loopF _ _ _ _ _ = r
  obtain ⟨env', rfl, acc, here, q, rfl, ea, _⟩ := loopF_rest (f := D.int) (fun rest env => ∃ (acc : List Int) (here : Int) (q : Sl), env = [.val (.int size), .val (tupI d), .val (tupI o), .own (acc.map .int), .val (.int here), q] ∧ acc ++ turnsF size d here rest = turnsF size d 0 o ∧ (∀ c ∈ rest, 0 ≤ c ∧ c < many) ∧ acc.length + rest.length ≤ 24 ∧ 0 ≤ here ∧ here < size) (by
      rintro c rest env ⟨acc, here, q, rfl, ea, hr, hn, hh⟩
      refine ⟨_, rfl, ?_⟩
      have ht := hr c List.mem_cons_self
      have ha := dl.rg _ (at_mem dl.len ht)
      rw [List.length_cons] at hn
      simp only [a_mVar, a_mC, a_mUn, a_mBin, a_mIf, a_mAnd, a_mOr, a_mNot, a_mNil, a_mCons, a_mCallF, a_mFn, a_mTst, a_mVal, a_mChain, a_mCmp, a_mSq, a_mOwn, a_mQ, a_mQ2, a_m2Q, a_mLst, a_mDisp, a_mTup, a_mRepL, a_mSeq, a_mSkip, a_mDrop, a_mRet, a_mRetN, a_mIfS, a_mSet, a_mSetL, a_mRaise, a_mNever, a_mFor, a_mLc, a_mIt, a_mFnL, a_mEnum, a_mSlc, a_mLRng, a_mLOf, a_oNone, a_oSome, a_asN, a_asT, a_mFrz, a_mApp, a_mExt, a_mPopAt, a_mPop, a_mSetM, a_mSetT, a_mSetTM, a_mAppM, a_ownAt, a_bnd, a_bnd_exc, a_bndS, a_bndS_exc, a_bndM, a_lift, a_asL_nil, a_asL_cons, a_gSub, a_gNeg, a_gAdd, a_gAddT, a_gAddL, a_gMod, a_gFdiv, a_gPow, a_gLt, a_gLe, a_gGt, a_gGe, a_truth_bl, a_truth_int, a_truth_lst, a_truth_tup, a_truth_non, a_blD, a_sq_tup, a_sq_lst, a_sq_scr, a_it_tup, a_it_lst, a_it_scr, a_qLen, a_qAt, a_qTuple, a_qSum, a_rng1, a_gLRng, a_fMin2, a_fMax2, a_fMin3, a_fAbs, a_fIntB, a_fIntI, a_isi_non, a_isi_bl, a_isi_int, a_isi_str, a_isi_tup, a_isi_lst, a_isN, a_notN, a_ofT, a_ofL, a_qTruth, a_mZip, a_qSumB, a_mPar, a_mAugI, a_mWhile, a_mPut, a_mParL, a_mPar3, a_gRevT, a_gRevL, a_mZip3, a_mIns, a_gTRng, a_mRetO, a_mRetL, a_mCallL, a_mTry, a_mAugS, a_mCount, a_gCount, a_wipe_nil, a_wipe_cons, a_callM, a_callN, List.map_cons, List.map_nil, List.length_cons, List.length_nil, List.cons_append, List.nil_append, Nat.reduceAdd, Nat.reduceSub, Nat.zero_add, List.replicate_succ, List.replicate_zero, List.getElem?_cons_zero, List.getElem?_cons_succ, List.set_cons_zero, List.set_cons_succ, List.append_nil, if_true, if_false, Bool.true_eq_false, Bool.false_eq_true, decide_true, decide_false, Bool.not_true, Bool.not_false, Nat.reduceLeDiff, Nat.reduceLT, Int.reduceLT, Int.reduceLE, Option.map_some, Option.map_none, Int.reduceToNat, true_and, and_true, Int.reduceNeg, at_in dl.len ht, e_turn s1 s2 hh ha, List.length_map]
      rw [if_pos (show acc.length < sizeLine by unfold sizeLine; omega)]
      simp only [a_mVar, a_mC, a_mUn, a_mBin, a_mIf, a_mAnd, a_mOr, a_mNot, a_mNil, a_mCons, a_mCallF, a_mFn, a_mTst, a_mVal, a_mChain, a_mCmp, a_mSq, a_mOwn, a_mQ, a_mQ2, a_m2Q, a_mLst, a_mDisp, a_mTup, a_mRepL, a_mSeq, a_mSkip, a_mDrop, a_mRet, a_mRetN, a_mIfS, a_mSet, a_mSetL, a_mRaise, a_mNever, a_mFor, a_mLc, a_mIt, a_mFnL, a_mEnum, a_mSlc, a_mLRng, a_mLOf, a_oNone, a_oSome, a_asN, a_asT, a_mFrz, a_mApp, a_mExt, a_mPopAt, a_mPop, a_mSetM, a_mSetT, a_mSetTM, a_mAppM, a_ownAt, a_bnd, a_bnd_exc, a_bndS, a_bndS_exc, a_bndM, a_lift, a_asL_nil, a_asL_cons, a_gSub, a_gNeg, a_gAdd, a_gAddT, a_gAddL, a_gMod, a_gFdiv, a_gPow, a_gLt, a_gLe, a_gGt, a_gGe, a_truth_bl, a_truth_int, a_truth_lst, a_truth_tup, a_truth_non, a_blD, a_sq_tup, a_sq_lst, a_sq_scr, a_it_tup, a_it_lst, a_it_scr, a_qLen, a_qAt, a_qTuple, a_qSum, a_rng1, a_gLRng, a_fMin2, a_fMax2, a_fMin3, a_fAbs, a_fIntB, a_fIntI, a_isi_non, a_isi_bl, a_isi_int, a_isi_str, a_isi_tup, a_isi_lst, a_isN, a_notN, a_ofT, a_ofL, a_qTruth, a_mZip, a_qSumB, a_mPar, a_mAugI, a_mWhile, a_mPut, a_mParL, a_mPar3, a_gRevT, a_gRevL, a_mZip3, a_mIns, a_gTRng, a_mRetO, a_mRetL, a_mCallL, a_mTry, a_mAugS, a_mCount, a_gCount, a_wipe_nil, a_wipe_cons, a_callM, a_callN, List.map_cons, List.map_nil, List.length_cons, List.length_nil, List.cons_append, List.nil_append, Nat.reduceAdd, Nat.reduceSub, Nat.zero_add, List.replicate_succ, List.replicate_zero, List.getElem?_cons_zero, List.getElem?_cons_succ, List.set_cons_zero, List.set_cons_succ, List.append_nil, if_true, if_false, Bool.true_eq_false, Bool.false_eq_true, decide_true, decide_false, Bool.not_true, Bool.not_false, Nat.reduceLeDiff, Nat.reduceLT, Int.reduceLT, Int.reduceLE, Option.map_some, Option.map_none, Int.reduceToNat, true_and, and_true, Int.reduceNeg, at_in dl.len ht]
      refine ⟨_, rfl, acc ++ [wayF size here (at0 d c)], at0 d c, _, by rw [List.map_append]; rfl, ?_, fun b hb => hr b (List.mem_cons_of_mem _ hb), by simp; omega, ha⟩
      rw [List.append_assoc]
      exact ea)
    o _ r hL ⟨[], 0, .none, rfl, rfl, A.th, by simpa using al, by omega, by omega⟩
  simp only [a_mVar, a_mC, a_mUn, a_mBin, a_mIf, a_mAnd, a_mOr, a_mNot, a_mNil, a_mCons, a_mCallF, a_mFn, a_mTst, a_mVal, a_mChain, a_mCmp, a_mSq, a_mOwn, a_mQ, a_mQ2, a_m2Q, a_mLst, a_mDisp, a_mTup, a_mRepL, a_mSeq, a_mSkip, a_mDrop, a_mRet, a_mRetN, a_mIfS, a_mSet, a_mSetL, a_mRaise, a_mNever, a_mFor, a_mLc, a_mIt, a_mFnL, a_mEnum, a_mSlc, a_mLRng, a_mLOf, a_oNone, a_oSome, a_asN, a_asT, a_mFrz, a_mApp, a_mExt, a_mPopAt, a_mPop, a_mSetM, a_mSetT, a_mSetTM, a_mAppM, a_ownAt, a_bnd, a_bnd_exc, a_bndS, a_bndS_exc, a_bndM, a_lift, a_asL_nil, a_asL_cons, a_gSub, a_gNeg, a_gAdd, a_gAddT, a_gAddL, a_gMod, a_gFdiv, a_gPow, a_gLt, a_gLe, a_gGt, a_gGe, a_truth_bl, a_truth_int, a_truth_lst, a_truth_tup, a_truth_non, a_blD, a_sq_tup, a_sq_lst, a_sq_scr, a_it_tup, a_it_lst, a_it_scr, a_qLen, a_qAt, a_qTuple, a_qSum, a_rng1, a_gLRng, a_fMin2, a_fMax2, a_fMin3, a_fAbs, a_fIntB, a_fIntI, a_isi_non, a_isi_bl, a_isi_int, a_isi_str, a_isi_tup, a_isi_lst, a_isN, a_notN, a_ofT, a_ofL, a_qTruth, a_mZip, a_qSumB, a_mPar, a_mAugI, a_mWhile, a_mPut, a_mParL, a_mPar3, a_gRevT, a_gRevL, a_mZip3, a_mIns, a_gTRng, a_mRetO, a_mRetL, a_mCallL, a_mTry, a_mAugS, a_mCount, a_gCount, a_wipe_nil, a_wipe_cons, a_callM, a_callN, List.map_cons, List.map_nil, List.length_cons, List.length_nil, List.cons_append, List.nil_append, Nat.reduceAdd, Nat.reduceSub, Nat.zero_add, List.replicate_succ, List.replicate_zero, List.getElem?_cons_zero, List.getElem?_cons_succ, List.set_cons_zero, List.set_cons_succ, List.append_nil, if_true, if_false, Bool.true_eq_false, Bool.false_eq_true, decide_true, decide_false, Bool.not_true, Bool.not_false, Nat.reduceLeDiff, Nat.reduceLT, Int.reduceLT, Int.reduceLE, Option.map_some, Option.map_none, Int.reduceToNat, true_and, and_true, Int.reduceNeg]
  rw [turnsF, List.append_nil] at ea
  rw [ea]
theorem e_law_turned {size many : Nat} (s1 : 2 ≤ size) (s2 : size ≤ 7) {d : List Int} (dl : Deal size many d) {o : List Int} (A : Asks many o) (h : AH) : f__law_turned [.int size, tupI d, tupI o] h = .ok (lstI (turnsF size d 0 o)) h := by
  unfold f__law_turned
  simp only [a_mVar, a_mC, a_mUn, a_mBin, a_mIf, a_mAnd, a_mOr, a_mNot, a_mNil, a_mCons, a_mCallF, a_mFn, a_mTst, a_mVal, a_mChain, a_mCmp, a_mSq, a_mOwn, a_mQ, a_mQ2, a_m2Q, a_mLst, a_mDisp, a_mTup, a_mRepL, a_mSeq, a_mSkip, a_mDrop, a_mRet, a_mRetN, a_mIfS, a_mSet, a_mSetL, a_mRaise, a_mNever, a_mFor, a_mLc, a_mIt, a_mFnL, a_mEnum, a_mSlc, a_mLRng, a_mLOf, a_oNone, a_oSome, a_asN, a_asT, a_mFrz, a_mApp, a_mExt, a_mPopAt, a_mPop, a_mSetM, a_mSetT, a_mSetTM, a_mAppM, a_ownAt, a_bnd, a_bnd_exc, a_bndS, a_bndS_exc, a_bndM, a_lift, a_asL_nil, a_asL_cons, a_gSub, a_gNeg, a_gAdd, a_gAddT, a_gAddL, a_gMod, a_gFdiv, a_gPow, a_gLt, a_gLe, a_gGt, a_gGe, a_truth_bl, a_truth_int, a_truth_lst, a_truth_tup, a_truth_non, a_blD, a_sq_tup, a_sq_lst, a_sq_scr, a_it_tup, a_it_lst, a_it_scr, a_qLen, a_qAt, a_qTuple, a_qSum, a_rng1, a_gLRng, a_fMin2, a_fMax2, a_fMin3, a_fAbs, a_fIntB, a_fIntI, a_isi_non, a_isi_bl, a_isi_int, a_isi_str, a_isi_tup, a_isi_lst, a_isN, a_notN, a_ofT, a_ofL, a_qTruth, a_mZip, a_qSumB, a_mPar, a_mAugI, a_mWhile, a_mPut, a_mParL, a_mPar3, a_gRevT, a_gRevL, a_mZip3, a_mIns, a_gTRng, a_mRetO, a_mRetL, a_mCallL, a_mTry, a_mAugS, a_mCount, a_gCount, a_wipe_nil, a_wipe_cons, a_callM, a_callN, List.map_cons, List.map_nil, List.length_cons, List.length_nil, List.cons_append, List.nil_append, Nat.reduceAdd, Nat.reduceSub, Nat.zero_add, List.replicate_succ, List.replicate_zero, List.getElem?_cons_zero, List.getElem?_cons_succ, List.set_cons_zero, List.set_cons_succ, List.append_nil, if_true, if_false, Bool.true_eq_false, Bool.false_eq_true, decide_true, decide_false, Bool.not_true, Bool.not_false, Nat.reduceLeDiff, Nat.reduceLT, Int.reduceLT, Int.reduceLE, Option.map_some, Option.map_none, Int.reduceToNat, true_and, and_true, Int.reduceNeg, run_turned s1 s2 dl A]
theorem n_turned {size many : Nat} (s1 : 2 ≤ size) (s2 : size ≤ 7) {d : List Int} (dl : Deal size many d) {o : List Int} (A : Asks many o) (h : AH) : n__law_turned [.int size, tupI d, tupI o] h = .ok ((turnsF size d 0 o).map .int) h := by
  unfold n__law_turned
  simp only [a_mVar, a_mC, a_mUn, a_mBin, a_mIf, a_mAnd, a_mOr, a_mNot, a_mNil, a_mCons, a_mCallF, a_mFn, a_mTst, a_mVal, a_mChain, a_mCmp, a_mSq, a_mOwn, a_mQ, a_mQ2, a_m2Q, a_mLst, a_mDisp, a_mTup, a_mRepL, a_mSeq, a_mSkip, a_mDrop, a_mRet, a_mRetN, a_mIfS, a_mSet, a_mSetL, a_mRaise, a_mNever, a_mFor, a_mLc, a_mIt, a_mFnL, a_mEnum, a_mSlc, a_mLRng, a_mLOf, a_oNone, a_oSome, a_asN, a_asT, a_mFrz, a_mApp, a_mExt, a_mPopAt, a_mPop, a_mSetM, a_mSetT, a_mSetTM, a_mAppM, a_ownAt, a_bnd, a_bnd_exc, a_bndS, a_bndS_exc, a_bndM, a_lift, a_asL_nil, a_asL_cons, a_gSub, a_gNeg, a_gAdd, a_gAddT, a_gAddL, a_gMod, a_gFdiv, a_gPow, a_gLt, a_gLe, a_gGt, a_gGe, a_truth_bl, a_truth_int, a_truth_lst, a_truth_tup, a_truth_non, a_blD, a_sq_tup, a_sq_lst, a_sq_scr, a_it_tup, a_it_lst, a_it_scr, a_qLen, a_qAt, a_qTuple, a_qSum, a_rng1, a_gLRng, a_fMin2, a_fMax2, a_fMin3, a_fAbs, a_fIntB, a_fIntI, a_isi_non, a_isi_bl, a_isi_int, a_isi_str, a_isi_tup, a_isi_lst, a_isN, a_notN, a_ofT, a_ofL, a_qTruth, a_mZip, a_qSumB, a_mPar, a_mAugI, a_mWhile, a_mPut, a_mParL, a_mPar3, a_gRevT, a_gRevL, a_mZip3, a_mIns, a_gTRng, a_mRetO, a_mRetL, a_mCallL, a_mTry, a_mAugS, a_mCount, a_gCount, a_wipe_nil, a_wipe_cons, a_callM, a_callN, List.map_cons, List.map_nil, List.length_cons, List.length_nil, List.cons_append, List.nil_append, Nat.reduceAdd, Nat.reduceSub, Nat.zero_add, List.replicate_succ, List.replicate_zero, List.getElem?_cons_zero, List.getElem?_cons_succ, List.set_cons_zero, List.set_cons_succ, List.append_nil, if_true, if_false, Bool.true_eq_false, Bool.false_eq_true, decide_true, decide_false, Bool.not_true, Bool.not_false, Nat.reduceLeDiff, Nat.reduceLT, Int.reduceLT, Int.reduceLE, Option.map_some, Option.map_none, Int.reduceToNat, true_and, and_true, Int.reduceNeg, run_turned s1 s2 dl A]
theorem e_sure_nil {size many : Nat} (s1 : 2 ≤ size) (s2 : size ≤ 7) (h1 : 1 ≤ many) (h2 : many ≤ 6) (h3 : many ≤ size) {o ts : List Int} (A : Asks many o) (hl : ts.length = o.length) (hne : heardF size many o ts = []) (h : AH) :
    f_sure_places [.int size, .int many, tupI o, lstI ts] h = .exc .NoDeal h := by
  unfold f_sure_places m_sure_places
  simp only [a_mVar, a_mC, a_mUn, a_mBin, a_mIf, a_mAnd, a_mOr, a_mNot, a_mNil, a_mCons, a_mCallF, a_mFn, a_mTst, a_mVal, a_mChain, a_mCmp, a_mSq, a_mOwn, a_mQ, a_mQ2, a_m2Q, a_mLst, a_mDisp, a_mTup, a_mRepL, a_mSeq, a_mSkip, a_mDrop, a_mRet, a_mRetN, a_mIfS, a_mSet, a_mSetL, a_mRaise, a_mNever, a_mFor, a_mLc, a_mIt, a_mFnL, a_mEnum, a_mSlc, a_mLRng, a_mLOf, a_oNone, a_oSome, a_asN, a_asT, a_mFrz, a_mApp, a_mExt, a_mPopAt, a_mPop, a_mSetM, a_mSetT, a_mSetTM, a_mAppM, a_ownAt, a_bnd, a_bnd_exc, a_bndS, a_bndS_exc, a_bndM, a_lift, a_asL_nil, a_asL_cons, a_gSub, a_gNeg, a_gAdd, a_gAddT, a_gAddL, a_gMod, a_gFdiv, a_gPow, a_gLt, a_gLe, a_gGt, a_gGe, a_truth_bl, a_truth_int, a_truth_lst, a_truth_tup, a_truth_non, a_blD, a_sq_tup, a_sq_lst, a_sq_scr, a_it_tup, a_it_lst, a_it_scr, a_qLen, a_qAt, a_qTuple, a_qSum, a_rng1, a_gLRng, a_fMin2, a_fMax2, a_fMin3, a_fAbs, a_fIntB, a_fIntI, a_isi_non, a_isi_bl, a_isi_int, a_isi_str, a_isi_tup, a_isi_lst, a_isN, a_notN, a_ofT, a_ofL, a_qTruth, a_mZip, a_qSumB, a_mPar, a_mAugI, a_mWhile, a_mPut, a_mParL, a_mPar3, a_gRevT, a_gRevL, a_mZip3, a_mIns, a_gTRng, a_mRetO, a_mRetL, a_mCallL, a_mTry, a_mAugS, a_mCount, a_gCount, a_wipe_nil, a_wipe_cons, a_callM, a_callN, List.map_cons, List.map_nil, List.length_cons, List.length_nil, List.cons_append, List.nil_append, Nat.reduceAdd, Nat.reduceSub, Nat.zero_add, List.replicate_succ, List.replicate_zero, List.getElem?_cons_zero, List.getElem?_cons_succ, List.set_cons_zero, List.set_cons_succ, List.append_nil, if_true, if_false, Bool.true_eq_false, Bool.false_eq_true, decide_true, decide_false, Bool.not_true, Bool.not_false, Nat.reduceLeDiff, Nat.reduceLT, Int.reduceLT, Int.reduceLE, Option.map_some, Option.map_none, Int.reduceToNat, true_and, and_true, Int.reduceNeg, e_look_many size many s1 s2 h1 h2 h3, e_look_asks A, e_look_turns hl A.len, e_heard s1 s2 h2 A, hne, List.isEmpty_nil]
theorem ne_self {x : D} (h : dpt x ≤ 60) : gNe x x = some false := by
  unfold gNe
  rw [if_pos ⟨h, h⟩]
  have : eqD x x = true := by
    unfold eqD
    exact SeqAt.eqv_refl _ (lay_of x h).1
  rw [this]
  rfl
theorem eq_self' {x : D} (h : dpt x ≤ 60) : gEq x x = some true := by
  unfold gEq
  rw [if_pos ⟨h, h⟩]
  have : eqD x x = true := by
    unfold eqD
    exact SeqAt.eqv_refl _ (lay_of x h).1
  rw [this]
theorem count_ddup {a : Int} {l : List Int} : (a :: l).count a = (a :: l).length ↔ (ddup (a :: l)).length = 1 := by
  rw [List.count_eq_length]
  constructor
  · intro h
    have key : ∀ l : List Int, l ≠ [] → (∀ y ∈ l, y = a) → ddup l = [a] := by
      intro l
      induction l with
      | nil => intro h _; exact absurd rfl h
      | cons b l ih =>
        intro _ q
        have eb := q b List.mem_cons_self
        cases l with
        | nil => rw [eb]; rfl
        | cons c l =>
          have ec := q c (List.mem_cons_of_mem _ List.mem_cons_self)
          rw [ddup, if_pos (by rw [eb, ec]; exact List.mem_cons_self)]
          exact ih (by simp) fun y hy => q y (List.mem_cons_of_mem _ hy)
    rw [key (a :: l) (by simp) fun y hy => (h y hy).symm]
    rfl
  · intro h b hb
    obtain ⟨q, eq⟩ := List.length_eq_one_iff.mp h
    have m1 : a ∈ ddup (a :: l) := mem_ddup.mpr List.mem_cons_self
    have m2 : b ∈ ddup (a :: l) := mem_ddup.mpr hb
    rw [eq] at m1 m2
    rw [List.mem_singleton.mp m1, List.mem_singleton.mp m2]
theorem named_deal {t : D} {h : AH} (e : f__law_called_then [.int 11, t] h = .exc .NoDeal h) : f__law_named [.int 11, t] h = .ok (.str "deal") h := by
  unfold f__law_named m__law_named
  simp only [a_mVar, a_mC, a_mUn, a_mBin, a_mIf, a_mAnd, a_mOr, a_mNot, a_mNil, a_mCons, a_mCallF, a_mFn, a_mTst, a_mVal, a_mChain, a_mCmp, a_mSq, a_mOwn, a_mQ, a_mQ2, a_m2Q, a_mLst, a_mDisp, a_mTup, a_mRepL, a_mSeq, a_mSkip, a_mDrop, a_mRet, a_mRetN, a_mIfS, a_mSet, a_mSetL, a_mRaise, a_mNever, a_mFor, a_mLc, a_mIt, a_mFnL, a_mEnum, a_mSlc, a_mLRng, a_mLOf, a_oNone, a_oSome, a_asN, a_asT, a_mFrz, a_mApp, a_mExt, a_mPopAt, a_mPop, a_mSetM, a_mSetT, a_mSetTM, a_mAppM, a_ownAt, a_bnd, a_bnd_exc, a_bndS, a_bndS_exc, a_bndM, a_lift, a_asL_nil, a_asL_cons, a_gSub, a_gNeg, a_gAdd, a_gAddT, a_gAddL, a_gMod, a_gFdiv, a_gPow, a_gLt, a_gLe, a_gGt, a_gGe, a_truth_bl, a_truth_int, a_truth_lst, a_truth_tup, a_truth_non, a_blD, a_sq_tup, a_sq_lst, a_sq_scr, a_it_tup, a_it_lst, a_it_scr, a_qLen, a_qAt, a_qTuple, a_qSum, a_rng1, a_gLRng, a_fMin2, a_fMax2, a_fMin3, a_fAbs, a_fIntB, a_fIntI, a_isi_non, a_isi_bl, a_isi_int, a_isi_str, a_isi_tup, a_isi_lst, a_isN, a_notN, a_ofT, a_ofL, a_qTruth, a_mZip, a_qSumB, a_mPar, a_mAugI, a_mWhile, a_mPut, a_mParL, a_mPar3, a_gRevT, a_gRevL, a_mZip3, a_mIns, a_gTRng, a_mRetO, a_mRetL, a_mCallL, a_mTry, a_mAugS, a_mCount, a_gCount, a_wipe_nil, a_wipe_cons, a_callM, a_callN, List.map_cons, List.map_nil, List.length_cons, List.length_nil, List.cons_append, List.nil_append, Nat.reduceAdd, Nat.reduceSub, Nat.zero_add, List.replicate_succ, List.replicate_zero, List.getElem?_cons_zero, List.getElem?_cons_succ, List.set_cons_zero, List.set_cons_succ, List.append_nil, if_true, if_false, Bool.true_eq_false, Bool.false_eq_true, decide_true, decide_false, Bool.not_true, Bool.not_false, Nat.reduceLeDiff, Nat.reduceLT, Int.reduceLT, Int.reduceLE, Option.map_some, Option.map_none, Int.reduceToNat, true_and, and_true, Int.reduceNeg, e]
  rfl
theorem at4 (x y z u : D) : atI [x, y, z, u] 0 = some x ∧ atI [x, y, z, u] 1 = some y ∧ atI [x, y, z, u] 2 = some z ∧ atI [x, y, z, u] 3 = some u := ⟨rfl, rfl, rfl, rfl⟩
theorem called11 (x y z u : D) (h : AH) : f__law_called_then [.int 11, .lst [x, y, z, u]] h = f_sure_places [x, y, z, u] h := by
  unfold f__law_called_then m__law_called_then
  simp only [a_mVar, a_mC, a_mUn, a_mBin, a_mIf, a_mAnd, a_mOr, a_mNot, a_mNil, a_mCons, a_mCallF, a_mFn, a_mTst, a_mVal, a_mChain, a_mCmp, a_mSq, a_mOwn, a_mQ, a_mQ2, a_m2Q, a_mLst, a_mDisp, a_mTup, a_mRepL, a_mSeq, a_mSkip, a_mDrop, a_mRet, a_mRetN, a_mIfS, a_mSet, a_mSetL, a_mRaise, a_mNever, a_mFor, a_mLc, a_mIt, a_mFnL, a_mEnum, a_mSlc, a_mLRng, a_mLOf, a_oNone, a_oSome, a_asN, a_asT, a_mFrz, a_mApp, a_mExt, a_mPopAt, a_mPop, a_mSetM, a_mSetT, a_mSetTM, a_mAppM, a_ownAt, a_bnd, a_bnd_exc, a_bndS, a_bndS_exc, a_bndM, a_lift, a_asL_nil, a_asL_cons, a_gSub, a_gNeg, a_gAdd, a_gAddT, a_gAddL, a_gMod, a_gFdiv, a_gPow, a_gLt, a_gLe, a_gGt, a_gGe, a_truth_bl, a_truth_int, a_truth_lst, a_truth_tup, a_truth_non, a_blD, a_sq_tup, a_sq_lst, a_sq_scr, a_it_tup, a_it_lst, a_it_scr, a_qLen, a_qAt, a_qTuple, a_qSum, a_rng1, a_gLRng, a_fMin2, a_fMax2, a_fMin3, a_fAbs, a_fIntB, a_fIntI, a_isi_non, a_isi_bl, a_isi_int, a_isi_str, a_isi_tup, a_isi_lst, a_isN, a_notN, a_ofT, a_ofL, a_qTruth, a_mZip, a_qSumB, a_mPar, a_mAugI, a_mWhile, a_mPut, a_mParL, a_mPar3, a_gRevT, a_gRevL, a_mZip3, a_mIns, a_gTRng, a_mRetO, a_mRetL, a_mCallL, a_mTry, a_mAugS, a_mCount, a_gCount, a_wipe_nil, a_wipe_cons, a_callM, a_callN, List.map_cons, List.map_nil, List.length_cons, List.length_nil, List.cons_append, List.nil_append, Nat.reduceAdd, Nat.reduceSub, Nat.zero_add, List.replicate_succ, List.replicate_zero, List.getElem?_cons_zero, List.getElem?_cons_succ, List.set_cons_zero, List.set_cons_succ, List.append_nil, if_true, if_false, Bool.true_eq_false, Bool.false_eq_true, decide_true, decide_false, Bool.not_true, Bool.not_false, Nat.reduceLeDiff, Nat.reduceLT, Int.reduceLT, Int.reduceLE, Option.map_some, Option.map_none, Int.reduceToNat, true_and, and_true, Int.reduceNeg, b_eqI, decide_true, (at4 x y z u).1, (at4 x y z u).2.1, (at4 x y z u).2.2.1, (at4 x y z u).2.2.2]
  cases f_sure_places [x, y, z, u] h <;> rfl
theorem dpt_part (l m : List Int) : dpt (partD l m) ≤ 60 := by
  unfold partD
  split <;> (rw [dpt]; omega)
theorem dpt_sure (s : List (List Int)) (t : Int) : dpt (sureD s t) = 0 := by
  unfold sureD
  split <;> rw [dpt]
theorem tail8 {size many : Nat} (s1 : 2 ≤ size) (s2 : size ≤ 7) (h1 : 1 ≤ many) (h2 : many ≤ 6) (h3 : many ≤ size) {ns d o : List Int} (dl : Deal size many d) (A : Asks many o) (q5 q6 q7 q8 q9 q10 : Sl) :
    m_law_t8 [.val (.scr ns), .val (.int size), .val (.int many), .val (tupI d), .val (tupI o), q5, q6, q7, q8, q9, q10, .none, .none, .none, .none, .none] [] = .ret (.bl true) [] := by
  obtain ⟨d', dl', ed'⟩ := e_deal (seedF (cell ns 8) 2) size many h3 (by omega) []
  have c8' : f__law_cell [.scr ns, .int 8] [] = .ok (.int (cell ns 8)) [] := e_cell ns 8 []
  have al := A.len
  have pt := e_parting s1 s2 h1 h2 dl dl' A []
  have l1 := turns_len size d o 0
  have l2 := turns_len size d' o 0
  have eqp := eq_self' (dpt_part (turnsF size d 0 o) (turnsF size d' 0 o))
  unfold m_law_t8
  simp only [a_mVar, a_mC, a_mUn, a_mBin, a_mIf, a_mAnd, a_mOr, a_mNot, a_mNil, a_mCons, a_mCallF, a_mFn, a_mTst, a_mVal, a_mChain, a_mCmp, a_mSq, a_mOwn, a_mQ, a_mQ2, a_m2Q, a_mLst, a_mDisp, a_mTup, a_mRepL, a_mSeq, a_mSkip, a_mDrop, a_mRet, a_mRetN, a_mIfS, a_mSet, a_mSetL, a_mRaise, a_mNever, a_mFor, a_mLc, a_mIt, a_mFnL, a_mEnum, a_mSlc, a_mLRng, a_mLOf, a_oNone, a_oSome, a_asN, a_asT, a_mFrz, a_mApp, a_mExt, a_mPopAt, a_mPop, a_mSetM, a_mSetT, a_mSetTM, a_mAppM, a_ownAt, a_bnd, a_bnd_exc, a_bndS, a_bndS_exc, a_bndM, a_lift, a_asL_nil, a_asL_cons, a_gSub, a_gNeg, a_gAdd, a_gAddT, a_gAddL, a_gMod, a_gFdiv, a_gPow, a_gLt, a_gLe, a_gGt, a_gGe, a_truth_bl, a_truth_int, a_truth_lst, a_truth_tup, a_truth_non, a_blD, a_sq_tup, a_sq_lst, a_sq_scr, a_it_tup, a_it_lst, a_it_scr, a_qLen, a_qAt, a_qTuple, a_qSum, a_rng1, a_gLRng, a_fMin2, a_fMax2, a_fMin3, a_fAbs, a_fIntB, a_fIntI, a_isi_non, a_isi_bl, a_isi_int, a_isi_str, a_isi_tup, a_isi_lst, a_isN, a_notN, a_ofT, a_ofL, a_qTruth, a_mZip, a_qSumB, a_mPar, a_mAugI, a_mWhile, a_mPut, a_mParL, a_mPar3, a_gRevT, a_gRevL, a_mZip3, a_mIns, a_gTRng, a_mRetO, a_mRetL, a_mCallL, a_mTry, a_mAugS, a_mCount, a_gCount, a_wipe_nil, a_wipe_cons, a_callM, a_callN, List.map_cons, List.map_nil, List.length_cons, List.length_nil, List.cons_append, List.nil_append, Nat.reduceAdd, Nat.reduceSub, Nat.zero_add, List.replicate_succ, List.replicate_zero, List.getElem?_cons_zero, List.getElem?_cons_succ, List.set_cons_zero, List.set_cons_succ, List.append_nil, if_true, if_false, Bool.true_eq_false, Bool.false_eq_true, decide_true, decide_false, Bool.not_true, Bool.not_false, Nat.reduceLeDiff, Nat.reduceLT, Int.reduceLT, Int.reduceLE, Option.map_some, Option.map_none, Int.reduceToNat, true_and, and_true, Int.reduceNeg, c8', e_seed, ed', e_law_turned s1 s2 dl A, e_law_turned s1 s2 dl' A, List.length_map, b_rng1 ((o.length : Nat) : Int) (by omega), Int.toNat_natCast, rangeD_map, List.length_range]
  rw [if_pos (show o.length ≤ sizeLine by unfold sizeLine; omega)]
  generalize turnsF size d 0 o = l at l1 pt eqp
  generalize turnsF size d' 0 o = m at l2 pt eqp
  have at_ : ∀ (x : List Int), x.length = o.length → ∀ i : Nat, i < o.length → atI (x.map D.int) (0 + (i : Int)) = some (.int (x.getD i 0)) := fun x hx i hi => by
    rw [Int.zero_add, atI_n, List.getElem?_map, List.getElem?_eq_getElem (by omega)]
    simp [List.getD, show i < x.length by omega]
  generalize hL : lcLoop _ _ _ _ _ _ = r
  obtain rfl := lc_at (f := fun i : Nat => D.int (0 + i)) hL (fun i : Nat => !decide (l.getD i 0 = m.getD i 0)) (fun i : Nat => D.int i) fun i hi => ⟨_, rfl, by
    have := List.mem_range.mp hi
    simp only [a_mVar, a_mC, a_mUn, a_mBin, a_mIf, a_mAnd, a_mOr, a_mNot, a_mNil, a_mCons, a_mCallF, a_mFn, a_mTst, a_mVal, a_mChain, a_mCmp, a_mSq, a_mOwn, a_mQ, a_mQ2, a_m2Q, a_mLst, a_mDisp, a_mTup, a_mRepL, a_mSeq, a_mSkip, a_mDrop, a_mRet, a_mRetN, a_mIfS, a_mSet, a_mSetL, a_mRaise, a_mNever, a_mFor, a_mLc, a_mIt, a_mFnL, a_mEnum, a_mSlc, a_mLRng, a_mLOf, a_oNone, a_oSome, a_asN, a_asT, a_mFrz, a_mApp, a_mExt, a_mPopAt, a_mPop, a_mSetM, a_mSetT, a_mSetTM, a_mAppM, a_ownAt, a_bnd, a_bnd_exc, a_bndS, a_bndS_exc, a_bndM, a_lift, a_asL_nil, a_asL_cons, a_gSub, a_gNeg, a_gAdd, a_gAddT, a_gAddL, a_gMod, a_gFdiv, a_gPow, a_gLt, a_gLe, a_gGt, a_gGe, a_truth_bl, a_truth_int, a_truth_lst, a_truth_tup, a_truth_non, a_blD, a_sq_tup, a_sq_lst, a_sq_scr, a_it_tup, a_it_lst, a_it_scr, a_qLen, a_qAt, a_qTuple, a_qSum, a_rng1, a_gLRng, a_fMin2, a_fMax2, a_fMin3, a_fAbs, a_fIntB, a_fIntI, a_isi_non, a_isi_bl, a_isi_int, a_isi_str, a_isi_tup, a_isi_lst, a_isN, a_notN, a_ofT, a_ofL, a_qTruth, a_mZip, a_qSumB, a_mPar, a_mAugI, a_mWhile, a_mPut, a_mParL, a_mPar3, a_gRevT, a_gRevL, a_mZip3, a_mIns, a_gTRng, a_mRetO, a_mRetL, a_mCallL, a_mTry, a_mAugS, a_mCount, a_gCount, a_wipe_nil, a_wipe_cons, a_callM, a_callN, List.map_cons, List.map_nil, List.length_cons, List.length_nil, List.cons_append, List.nil_append, Nat.reduceAdd, Nat.reduceSub, Nat.zero_add, List.replicate_succ, List.replicate_zero, List.getElem?_cons_zero, List.getElem?_cons_succ, List.set_cons_zero, List.set_cons_succ, List.append_nil, if_true, if_false, Bool.true_eq_false, Bool.false_eq_true, decide_true, decide_false, Bool.not_true, Bool.not_false, Nat.reduceLeDiff, Nat.reduceLT, Int.reduceLT, Int.reduceLE, Option.map_some, Option.map_none, Int.reduceToNat, true_and, and_true, Int.reduceNeg, at_ l l1 i this, at_ m l2 i this, b_neI], fun _ => by simp only [a_mVar, a_mC, a_mUn, a_mBin, a_mIf, a_mAnd, a_mOr, a_mNot, a_mNil, a_mCons, a_mCallF, a_mFn, a_mTst, a_mVal, a_mChain, a_mCmp, a_mSq, a_mOwn, a_mQ, a_mQ2, a_m2Q, a_mLst, a_mDisp, a_mTup, a_mRepL, a_mSeq, a_mSkip, a_mDrop, a_mRet, a_mRetN, a_mIfS, a_mSet, a_mSetL, a_mRaise, a_mNever, a_mFor, a_mLc, a_mIt, a_mFnL, a_mEnum, a_mSlc, a_mLRng, a_mLOf, a_oNone, a_oSome, a_asN, a_asT, a_mFrz, a_mApp, a_mExt, a_mPopAt, a_mPop, a_mSetM, a_mSetT, a_mSetTM, a_mAppM, a_ownAt, a_bnd, a_bnd_exc, a_bndS, a_bndS_exc, a_bndM, a_lift, a_asL_nil, a_asL_cons, a_gSub, a_gNeg, a_gAdd, a_gAddT, a_gAddL, a_gMod, a_gFdiv, a_gPow, a_gLt, a_gLe, a_gGt, a_gGe, a_truth_bl, a_truth_int, a_truth_lst, a_truth_tup, a_truth_non, a_blD, a_sq_tup, a_sq_lst, a_sq_scr, a_it_tup, a_it_lst, a_it_scr, a_qLen, a_qAt, a_qTuple, a_qSum, a_rng1, a_gLRng, a_fMin2, a_fMax2, a_fMin3, a_fAbs, a_fIntB, a_fIntI, a_isi_non, a_isi_bl, a_isi_int, a_isi_str, a_isi_tup, a_isi_lst, a_isN, a_notN, a_ofT, a_ofL, a_qTruth, a_mZip, a_qSumB, a_mPar, a_mAugI, a_mWhile, a_mPut, a_mParL, a_mPar3, a_gRevT, a_gRevL, a_mZip3, a_mIns, a_gTRng, a_mRetO, a_mRetL, a_mCallL, a_mTry, a_mAugS, a_mCount, a_gCount, a_wipe_nil, a_wipe_cons, a_callM, a_callN, List.map_cons, List.map_nil, List.length_cons, List.length_nil, List.cons_append, List.nil_append, Nat.reduceAdd, Nat.reduceSub, Nat.zero_add, List.replicate_succ, List.replicate_zero, List.getElem?_cons_zero, List.getElem?_cons_succ, List.set_cons_zero, List.set_cons_succ, List.append_nil, if_true, if_false, Bool.true_eq_false, Bool.false_eq_true, decide_true, decide_false, Bool.not_true, Bool.not_false, Nat.reduceLeDiff, Nat.reduceLT, Int.reduceLT, Int.reduceLE, Option.map_some, Option.map_none, Int.reduceToNat, true_and, and_true, Int.reduceNeg, Int.zero_add]⟩
  clear hL
  have pf : (List.range o.length).filter (fun i : Nat => !decide (l.getD i 0 = m.getD i 0)) = partsF l m := by unfold partsF; rw [l1]
  rw [pf]
  have enp : gNe (D.lst ((partsF l m).map fun i : Nat => D.int i)) (D.lst []) = some (!decide (partsF l m = [])) := by
    have := b_neL ((partsF l m).map fun i : Nat => (i : Int)) []
    rw [List.map_map, List.map_nil] at this
    rw [show ((partsF l m).map fun i : Nat => D.int i) = (partsF l m).map (D.int ∘ fun i : Nat => (i : Int)) from rfl, this]
    simp
  simp only [a_mVar, a_mC, a_mUn, a_mBin, a_mIf, a_mAnd, a_mOr, a_mNot, a_mNil, a_mCons, a_mCallF, a_mFn, a_mTst, a_mVal, a_mChain, a_mCmp, a_mSq, a_mOwn, a_mQ, a_mQ2, a_m2Q, a_mLst, a_mDisp, a_mTup, a_mRepL, a_mSeq, a_mSkip, a_mDrop, a_mRet, a_mRetN, a_mIfS, a_mSet, a_mSetL, a_mRaise, a_mNever, a_mFor, a_mLc, a_mIt, a_mFnL, a_mEnum, a_mSlc, a_mLRng, a_mLOf, a_oNone, a_oSome, a_asN, a_asT, a_mFrz, a_mApp, a_mExt, a_mPopAt, a_mPop, a_mSetM, a_mSetT, a_mSetTM, a_mAppM, a_ownAt, a_bnd, a_bnd_exc, a_bndS, a_bndS_exc, a_bndM, a_lift, a_asL_nil, a_asL_cons, a_gSub, a_gNeg, a_gAdd, a_gAddT, a_gAddL, a_gMod, a_gFdiv, a_gPow, a_gLt, a_gLe, a_gGt, a_gGe, a_truth_bl, a_truth_int, a_truth_lst, a_truth_tup, a_truth_non, a_blD, a_sq_tup, a_sq_lst, a_sq_scr, a_it_tup, a_it_lst, a_it_scr, a_qLen, a_qAt, a_qTuple, a_qSum, a_rng1, a_gLRng, a_fMin2, a_fMax2, a_fMin3, a_fAbs, a_fIntB, a_fIntI, a_isi_non, a_isi_bl, a_isi_int, a_isi_str, a_isi_tup, a_isi_lst, a_isN, a_notN, a_ofT, a_ofL, a_qTruth, a_mZip, a_qSumB, a_mPar, a_mAugI, a_mWhile, a_mPut, a_mParL, a_mPar3, a_gRevT, a_gRevL, a_mZip3, a_mIns, a_gTRng, a_mRetO, a_mRetL, a_mCallL, a_mTry, a_mAugS, a_mCount, a_gCount, a_wipe_nil, a_wipe_cons, a_callM, a_callN, List.map_cons, List.map_nil, List.length_cons, List.length_nil, List.cons_append, List.nil_append, Nat.reduceAdd, Nat.reduceSub, Nat.zero_add, List.replicate_succ, List.replicate_zero, List.getElem?_cons_zero, List.getElem?_cons_succ, List.set_cons_zero, List.set_cons_succ, List.append_nil, if_true, if_false, Bool.true_eq_false, Bool.false_eq_true, decide_true, decide_false, Bool.not_true, Bool.not_false, Nat.reduceLeDiff, Nat.reduceLT, Int.reduceLT, Int.reduceLE, Option.map_some, Option.map_none, Int.reduceToNat, true_and, and_true, Int.reduceNeg, pt, enp]
  cases e : partsF l m with
  | nil =>
    have ep : partD l m = .non := by unfold partD; rw [e]
    rw [ep] at eqp
    simp only [a_mVar, a_mC, a_mUn, a_mBin, a_mIf, a_mAnd, a_mOr, a_mNot, a_mNil, a_mCons, a_mCallF, a_mFn, a_mTst, a_mVal, a_mChain, a_mCmp, a_mSq, a_mOwn, a_mQ, a_mQ2, a_m2Q, a_mLst, a_mDisp, a_mTup, a_mRepL, a_mSeq, a_mSkip, a_mDrop, a_mRet, a_mRetN, a_mIfS, a_mSet, a_mSetL, a_mRaise, a_mNever, a_mFor, a_mLc, a_mIt, a_mFnL, a_mEnum, a_mSlc, a_mLRng, a_mLOf, a_oNone, a_oSome, a_asN, a_asT, a_mFrz, a_mApp, a_mExt, a_mPopAt, a_mPop, a_mSetM, a_mSetT, a_mSetTM, a_mAppM, a_ownAt, a_bnd, a_bnd_exc, a_bndS, a_bndS_exc, a_bndM, a_lift, a_asL_nil, a_asL_cons, a_gSub, a_gNeg, a_gAdd, a_gAddT, a_gAddL, a_gMod, a_gFdiv, a_gPow, a_gLt, a_gLe, a_gGt, a_gGe, a_truth_bl, a_truth_int, a_truth_lst, a_truth_tup, a_truth_non, a_blD, a_sq_tup, a_sq_lst, a_sq_scr, a_it_tup, a_it_lst, a_it_scr, a_qLen, a_qAt, a_qTuple, a_qSum, a_rng1, a_gLRng, a_fMin2, a_fMax2, a_fMin3, a_fAbs, a_fIntB, a_fIntI, a_isi_non, a_isi_bl, a_isi_int, a_isi_str, a_isi_tup, a_isi_lst, a_isN, a_notN, a_ofT, a_ofL, a_qTruth, a_mZip, a_qSumB, a_mPar, a_mAugI, a_mWhile, a_mPut, a_mParL, a_mPar3, a_gRevT, a_gRevL, a_mZip3, a_mIns, a_gTRng, a_mRetO, a_mRetL, a_mCallL, a_mTry, a_mAugS, a_mCount, a_gCount, a_wipe_nil, a_wipe_cons, a_callM, a_callN, List.map_cons, List.map_nil, List.length_cons, List.length_nil, List.cons_append, List.nil_append, Nat.reduceAdd, Nat.reduceSub, Nat.zero_add, List.replicate_succ, List.replicate_zero, List.getElem?_cons_zero, List.getElem?_cons_succ, List.set_cons_zero, List.set_cons_succ, List.append_nil, if_true, if_false, Bool.true_eq_false, Bool.false_eq_true, decide_true, decide_false, Bool.not_true, Bool.not_false, Nat.reduceLeDiff, Nat.reduceLT, Int.reduceLT, Int.reduceLE, Option.map_some, Option.map_none, Int.reduceToNat, true_and, and_true, Int.reduceNeg, ep, decide_true, eqp]
  | cons k r =>
    have ep : partD l m = .int (k : Nat) := by unfold partD; rw [e]
    rw [ep] at eqp
    have a0 : atI (D.int ((k : Nat) : Int) :: r.map (fun i : Nat => D.int i)) 0 = some (D.int ((k : Nat) : Int)) := atI_n _ 0
    simp only [a_mVar, a_mC, a_mUn, a_mBin, a_mIf, a_mAnd, a_mOr, a_mNot, a_mNil, a_mCons, a_mCallF, a_mFn, a_mTst, a_mVal, a_mChain, a_mCmp, a_mSq, a_mOwn, a_mQ, a_mQ2, a_m2Q, a_mLst, a_mDisp, a_mTup, a_mRepL, a_mSeq, a_mSkip, a_mDrop, a_mRet, a_mRetN, a_mIfS, a_mSet, a_mSetL, a_mRaise, a_mNever, a_mFor, a_mLc, a_mIt, a_mFnL, a_mEnum, a_mSlc, a_mLRng, a_mLOf, a_oNone, a_oSome, a_asN, a_asT, a_mFrz, a_mApp, a_mExt, a_mPopAt, a_mPop, a_mSetM, a_mSetT, a_mSetTM, a_mAppM, a_ownAt, a_bnd, a_bnd_exc, a_bndS, a_bndS_exc, a_bndM, a_lift, a_asL_nil, a_asL_cons, a_gSub, a_gNeg, a_gAdd, a_gAddT, a_gAddL, a_gMod, a_gFdiv, a_gPow, a_gLt, a_gLe, a_gGt, a_gGe, a_truth_bl, a_truth_int, a_truth_lst, a_truth_tup, a_truth_non, a_blD, a_sq_tup, a_sq_lst, a_sq_scr, a_it_tup, a_it_lst, a_it_scr, a_qLen, a_qAt, a_qTuple, a_qSum, a_rng1, a_gLRng, a_fMin2, a_fMax2, a_fMin3, a_fAbs, a_fIntB, a_fIntI, a_isi_non, a_isi_bl, a_isi_int, a_isi_str, a_isi_tup, a_isi_lst, a_isN, a_notN, a_ofT, a_ofL, a_qTruth, a_mZip, a_qSumB, a_mPar, a_mAugI, a_mWhile, a_mPut, a_mParL, a_mPar3, a_gRevT, a_gRevL, a_mZip3, a_mIns, a_gTRng, a_mRetO, a_mRetL, a_mCallL, a_mTry, a_mAugS, a_mCount, a_gCount, a_wipe_nil, a_wipe_cons, a_callM, a_callN, List.map_cons, List.map_nil, List.length_cons, List.length_nil, List.cons_append, List.nil_append, Nat.reduceAdd, Nat.reduceSub, Nat.zero_add, List.replicate_succ, List.replicate_zero, List.getElem?_cons_zero, List.getElem?_cons_succ, List.set_cons_zero, List.set_cons_succ, List.append_nil, if_true, if_false, Bool.true_eq_false, Bool.false_eq_true, decide_true, decide_false, Bool.not_true, Bool.not_false, Nat.reduceLeDiff, Nat.reduceLT, Int.reduceLT, Int.reduceLE, Option.map_some, Option.map_none, Int.reduceToNat, true_and, and_true, Int.reduceNeg, ep, decide_eq_false (show ¬ (k :: r = []) by simp), a0, eqp]
theorem tail_ok {size many : Nat} (s1 : 2 ≤ size) (s2 : size ≤ 7) (h1 : 1 ≤ many) (h2 : many ≤ 6) (h3 : many ≤ size) (hp : size ^ many ≤ 3125) {ns d o : List Int} (dl : Deal size many d) (A : Asks many o) (S : List Int) (hS : S.length = o.length) (q6 : Sl) :
    m_law_t5 [.val (.scr ns), .val (.int size), .val (.int many), .val (tupI d), .val (tupI o), .own (S.map .int), q6, .none, .none, .none, .none, .none, .none, .none, .none, .none] [] = .ret (.bl true) [] := by
  have hbl := every_bound (size := size) (n := many) s2 h2
  have ok := every_deal_ok size many
  have al := A.len
  have hb : (heardF size many o S).length ≤ 3125 := Nat.le_trans (List.length_filter_le _ _) (Nat.le_trans (every_len size many) hp)
  have oks : ∀ x ∈ heardF size many o S, Deal size many x := fun x hx => ok x (List.mem_filter.mp hx).1
  have db := e_deals_by s1 s2 h1 h2 h3 A hS []
  have enl : ∀ l : List (List Int), gEq (D.lst (l.map tupI)) (D.lst []) = some (decide (l = [])) := fun l => b_eqLT l []
  have nD : gNe (.str "deal") (.str "deal") = some false := ne_self (by rw [dpt, if_pos (by decide +kernel)]; omega)
  unfold m_law_t5
  simp only [a_mVar, a_mC, a_mUn, a_mBin, a_mIf, a_mAnd, a_mOr, a_mNot, a_mNil, a_mCons, a_mCallF, a_mFn, a_mTst, a_mVal, a_mChain, a_mCmp, a_mSq, a_mOwn, a_mQ, a_mQ2, a_m2Q, a_mLst, a_mDisp, a_mTup, a_mRepL, a_mSeq, a_mSkip, a_mDrop, a_mRet, a_mRetN, a_mIfS, a_mSet, a_mSetL, a_mRaise, a_mNever, a_mFor, a_mLc, a_mIt, a_mFnL, a_mEnum, a_mSlc, a_mLRng, a_mLOf, a_oNone, a_oSome, a_asN, a_asT, a_mFrz, a_mApp, a_mExt, a_mPopAt, a_mPop, a_mSetM, a_mSetT, a_mSetTM, a_mAppM, a_ownAt, a_bnd, a_bnd_exc, a_bndS, a_bndS_exc, a_bndM, a_lift, a_asL_nil, a_asL_cons, a_gSub, a_gNeg, a_gAdd, a_gAddT, a_gAddL, a_gMod, a_gFdiv, a_gPow, a_gLt, a_gLe, a_gGt, a_gGe, a_truth_bl, a_truth_int, a_truth_lst, a_truth_tup, a_truth_non, a_blD, a_sq_tup, a_sq_lst, a_sq_scr, a_it_tup, a_it_lst, a_it_scr, a_qLen, a_qAt, a_qTuple, a_qSum, a_rng1, a_gLRng, a_fMin2, a_fMax2, a_fMin3, a_fAbs, a_fIntB, a_fIntI, a_isi_non, a_isi_bl, a_isi_int, a_isi_str, a_isi_tup, a_isi_lst, a_isN, a_notN, a_ofT, a_ofL, a_qTruth, a_mZip, a_qSumB, a_mPar, a_mAugI, a_mWhile, a_mPut, a_mParL, a_mPar3, a_gRevT, a_gRevL, a_mZip3, a_mIns, a_gTRng, a_mRetO, a_mRetL, a_mCallL, a_mTry, a_mAugS, a_mCount, a_gCount, a_wipe_nil, a_wipe_cons, a_callM, a_callN, List.map_cons, List.map_nil, List.length_cons, List.length_nil, List.cons_append, List.nil_append, Nat.reduceAdd, Nat.reduceSub, Nat.zero_add, List.replicate_succ, List.replicate_zero, List.getElem?_cons_zero, List.getElem?_cons_succ, List.set_cons_zero, List.set_cons_succ, List.append_nil, if_true, if_false, Bool.true_eq_false, Bool.false_eq_true, decide_true, decide_false, Bool.not_true, Bool.not_false, Nat.reduceLeDiff, Nat.reduceLT, Int.reduceLT, Int.reduceLE, Option.map_some, Option.map_none, Int.reduceToNat, true_and, and_true, Int.reduceNeg, e_all_deals s2 h2, List.length_map]
  rw [if_pos (show (everyF size many).length ≤ sizeLine by unfold sizeLine; omega)]
  generalize hL : lcLoop _ _ _ _ _ _ = r
  obtain rfl := lc_at (f := tupI) hL (fun x => decide (turnsF size x 0 o = S)) tupI fun x hx => ⟨_, rfl, by simp only [a_mVar, a_mC, a_mUn, a_mBin, a_mIf, a_mAnd, a_mOr, a_mNot, a_mNil, a_mCons, a_mCallF, a_mFn, a_mTst, a_mVal, a_mChain, a_mCmp, a_mSq, a_mOwn, a_mQ, a_mQ2, a_m2Q, a_mLst, a_mDisp, a_mTup, a_mRepL, a_mSeq, a_mSkip, a_mDrop, a_mRet, a_mRetN, a_mIfS, a_mSet, a_mSetL, a_mRaise, a_mNever, a_mFor, a_mLc, a_mIt, a_mFnL, a_mEnum, a_mSlc, a_mLRng, a_mLOf, a_oNone, a_oSome, a_asN, a_asT, a_mFrz, a_mApp, a_mExt, a_mPopAt, a_mPop, a_mSetM, a_mSetT, a_mSetTM, a_mAppM, a_ownAt, a_bnd, a_bnd_exc, a_bndS, a_bndS_exc, a_bndM, a_lift, a_asL_nil, a_asL_cons, a_gSub, a_gNeg, a_gAdd, a_gAddT, a_gAddL, a_gMod, a_gFdiv, a_gPow, a_gLt, a_gLe, a_gGt, a_gGe, a_truth_bl, a_truth_int, a_truth_lst, a_truth_tup, a_truth_non, a_blD, a_sq_tup, a_sq_lst, a_sq_scr, a_it_tup, a_it_lst, a_it_scr, a_qLen, a_qAt, a_qTuple, a_qSum, a_rng1, a_gLRng, a_fMin2, a_fMax2, a_fMin3, a_fAbs, a_fIntB, a_fIntI, a_isi_non, a_isi_bl, a_isi_int, a_isi_str, a_isi_tup, a_isi_lst, a_isN, a_notN, a_ofT, a_ofL, a_qTruth, a_mZip, a_qSumB, a_mPar, a_mAugI, a_mWhile, a_mPut, a_mParL, a_mPar3, a_gRevT, a_gRevL, a_mZip3, a_mIns, a_gTRng, a_mRetO, a_mRetL, a_mCallL, a_mTry, a_mAugS, a_mCount, a_gCount, a_wipe_nil, a_wipe_cons, a_callM, a_callN, List.map_cons, List.map_nil, List.length_cons, List.length_nil, List.cons_append, List.nil_append, Nat.reduceAdd, Nat.reduceSub, Nat.zero_add, List.replicate_succ, List.replicate_zero, List.getElem?_cons_zero, List.getElem?_cons_succ, List.set_cons_zero, List.set_cons_succ, List.append_nil, if_true, if_false, Bool.true_eq_false, Bool.false_eq_true, decide_true, decide_false, Bool.not_true, Bool.not_false, Nat.reduceLeDiff, Nat.reduceLT, Int.reduceLT, Int.reduceLE, Option.map_some, Option.map_none, Int.reduceToNat, true_and, and_true, Int.reduceNeg, e_law_turned s1 s2 (ok x hx) A, b_eqL], fun _ => by simp only [a_mVar, a_mC, a_mUn, a_mBin, a_mIf, a_mAnd, a_mOr, a_mNot, a_mNil, a_mCons, a_mCallF, a_mFn, a_mTst, a_mVal, a_mChain, a_mCmp, a_mSq, a_mOwn, a_mQ, a_mQ2, a_m2Q, a_mLst, a_mDisp, a_mTup, a_mRepL, a_mSeq, a_mSkip, a_mDrop, a_mRet, a_mRetN, a_mIfS, a_mSet, a_mSetL, a_mRaise, a_mNever, a_mFor, a_mLc, a_mIt, a_mFnL, a_mEnum, a_mSlc, a_mLRng, a_mLOf, a_oNone, a_oSome, a_asN, a_asT, a_mFrz, a_mApp, a_mExt, a_mPopAt, a_mPop, a_mSetM, a_mSetT, a_mSetTM, a_mAppM, a_ownAt, a_bnd, a_bnd_exc, a_bndS, a_bndS_exc, a_bndM, a_lift, a_asL_nil, a_asL_cons, a_gSub, a_gNeg, a_gAdd, a_gAddT, a_gAddL, a_gMod, a_gFdiv, a_gPow, a_gLt, a_gLe, a_gGt, a_gGe, a_truth_bl, a_truth_int, a_truth_lst, a_truth_tup, a_truth_non, a_blD, a_sq_tup, a_sq_lst, a_sq_scr, a_it_tup, a_it_lst, a_it_scr, a_qLen, a_qAt, a_qTuple, a_qSum, a_rng1, a_gLRng, a_fMin2, a_fMax2, a_fMin3, a_fAbs, a_fIntB, a_fIntI, a_isi_non, a_isi_bl, a_isi_int, a_isi_str, a_isi_tup, a_isi_lst, a_isN, a_notN, a_ofT, a_ofL, a_qTruth, a_mZip, a_qSumB, a_mPar, a_mAugI, a_mWhile, a_mPut, a_mParL, a_mPar3, a_gRevT, a_gRevL, a_mZip3, a_mIns, a_gTRng, a_mRetO, a_mRetL, a_mCallL, a_mTry, a_mAugS, a_mCount, a_gCount, a_wipe_nil, a_wipe_cons, a_callM, a_callN, List.map_cons, List.map_nil, List.length_cons, List.length_nil, List.cons_append, List.nil_append, Nat.reduceAdd, Nat.reduceSub, Nat.zero_add, List.replicate_succ, List.replicate_zero, List.getElem?_cons_zero, List.getElem?_cons_succ, List.set_cons_zero, List.set_cons_succ, List.append_nil, if_true, if_false, Bool.true_eq_false, Bool.false_eq_true, decide_true, decide_false, Bool.not_true, Bool.not_false, Nat.reduceLeDiff, Nat.reduceLT, Int.reduceLT, Int.reduceLE, Option.map_some, Option.map_none, Int.reduceToNat, true_and, and_true, Int.reduceNeg]⟩
  clear hL
  rw [show (everyF size many).filter (fun x => decide (turnsF size x 0 o = S)) = heardF size many o S from rfl]
  simp only [a_mVar, a_mC, a_mUn, a_mBin, a_mIf, a_mAnd, a_mOr, a_mNot, a_mNil, a_mCons, a_mCallF, a_mFn, a_mTst, a_mVal, a_mChain, a_mCmp, a_mSq, a_mOwn, a_mQ, a_mQ2, a_m2Q, a_mLst, a_mDisp, a_mTup, a_mRepL, a_mSeq, a_mSkip, a_mDrop, a_mRet, a_mRetN, a_mIfS, a_mSet, a_mSetL, a_mRaise, a_mNever, a_mFor, a_mLc, a_mIt, a_mFnL, a_mEnum, a_mSlc, a_mLRng, a_mLOf, a_oNone, a_oSome, a_asN, a_asT, a_mFrz, a_mApp, a_mExt, a_mPopAt, a_mPop, a_mSetM, a_mSetT, a_mSetTM, a_mAppM, a_ownAt, a_bnd, a_bnd_exc, a_bndS, a_bndS_exc, a_bndM, a_lift, a_asL_nil, a_asL_cons, a_gSub, a_gNeg, a_gAdd, a_gAddT, a_gAddL, a_gMod, a_gFdiv, a_gPow, a_gLt, a_gLe, a_gGt, a_gGe, a_truth_bl, a_truth_int, a_truth_lst, a_truth_tup, a_truth_non, a_blD, a_sq_tup, a_sq_lst, a_sq_scr, a_it_tup, a_it_lst, a_it_scr, a_qLen, a_qAt, a_qTuple, a_qSum, a_rng1, a_gLRng, a_fMin2, a_fMax2, a_fMin3, a_fAbs, a_fIntB, a_fIntI, a_isi_non, a_isi_bl, a_isi_int, a_isi_str, a_isi_tup, a_isi_lst, a_isN, a_notN, a_ofT, a_ofL, a_qTruth, a_mZip, a_qSumB, a_mPar, a_mAugI, a_mWhile, a_mPut, a_mParL, a_mPar3, a_gRevT, a_gRevL, a_mZip3, a_mIns, a_gTRng, a_mRetO, a_mRetL, a_mCallL, a_mTry, a_mAugS, a_mCount, a_gCount, a_wipe_nil, a_wipe_cons, a_callM, a_callN, List.map_cons, List.map_nil, List.length_cons, List.length_nil, List.cons_append, List.nil_append, Nat.reduceAdd, Nat.reduceSub, Nat.zero_add, List.replicate_succ, List.replicate_zero, List.getElem?_cons_zero, List.getElem?_cons_succ, List.set_cons_zero, List.set_cons_succ, List.append_nil, if_true, if_false, Bool.true_eq_false, Bool.false_eq_true, decide_true, decide_false, Bool.not_true, Bool.not_false, Nat.reduceLeDiff, Nat.reduceLT, Int.reduceLT, Int.reduceLE, Option.map_some, Option.map_none, Int.reduceToNat, true_and, and_true, Int.reduceNeg, db, b_neLT, decide_true, enl]
  by_cases z : heardF size many o S = []
  · have nd := named_deal (t := .lst [.int size, .int many, tupI o, lstI S]) (h := []) (by rw [called11]; exact e_sure_nil s1 s2 h1 h2 h3 A hS z [])
    simp only [a_mVar, a_mC, a_mUn, a_mBin, a_mIf, a_mAnd, a_mOr, a_mNot, a_mNil, a_mCons, a_mCallF, a_mFn, a_mTst, a_mVal, a_mChain, a_mCmp, a_mSq, a_mOwn, a_mQ, a_mQ2, a_m2Q, a_mLst, a_mDisp, a_mTup, a_mRepL, a_mSeq, a_mSkip, a_mDrop, a_mRet, a_mRetN, a_mIfS, a_mSet, a_mSetL, a_mRaise, a_mNever, a_mFor, a_mLc, a_mIt, a_mFnL, a_mEnum, a_mSlc, a_mLRng, a_mLOf, a_oNone, a_oSome, a_asN, a_asT, a_mFrz, a_mApp, a_mExt, a_mPopAt, a_mPop, a_mSetM, a_mSetT, a_mSetTM, a_mAppM, a_ownAt, a_bnd, a_bnd_exc, a_bndS, a_bndS_exc, a_bndM, a_lift, a_asL_nil, a_asL_cons, a_gSub, a_gNeg, a_gAdd, a_gAddT, a_gAddL, a_gMod, a_gFdiv, a_gPow, a_gLt, a_gLe, a_gGt, a_gGe, a_truth_bl, a_truth_int, a_truth_lst, a_truth_tup, a_truth_non, a_blD, a_sq_tup, a_sq_lst, a_sq_scr, a_it_tup, a_it_lst, a_it_scr, a_qLen, a_qAt, a_qTuple, a_qSum, a_rng1, a_gLRng, a_fMin2, a_fMax2, a_fMin3, a_fAbs, a_fIntB, a_fIntI, a_isi_non, a_isi_bl, a_isi_int, a_isi_str, a_isi_tup, a_isi_lst, a_isN, a_notN, a_ofT, a_ofL, a_qTruth, a_mZip, a_qSumB, a_mPar, a_mAugI, a_mWhile, a_mPut, a_mParL, a_mPar3, a_gRevT, a_gRevL, a_mZip3, a_mIns, a_gTRng, a_mRetO, a_mRetL, a_mCallL, a_mTry, a_mAugS, a_mCount, a_gCount, a_wipe_nil, a_wipe_cons, a_callM, a_callN, List.map_cons, List.map_nil, List.length_cons, List.length_nil, List.cons_append, List.nil_append, Nat.reduceAdd, Nat.reduceSub, Nat.zero_add, List.replicate_succ, List.replicate_zero, List.getElem?_cons_zero, List.getElem?_cons_succ, List.set_cons_zero, List.set_cons_succ, List.append_nil, if_true, if_false, Bool.true_eq_false, Bool.false_eq_true, decide_true, decide_false, Bool.not_true, Bool.not_false, Nat.reduceLeDiff, Nat.reduceLT, Int.reduceLT, Int.reduceLE, Option.map_some, Option.map_none, Int.reduceToNat, true_and, and_true, Int.reduceNeg, decide_eq_true z, nd, nD, tail8 s1 s2 h1 h2 h3 dl A]
  · have su := e_sure s1 s2 h1 h2 h3 hp A hS z []
    simp only [a_mVar, a_mC, a_mUn, a_mBin, a_mIf, a_mAnd, a_mOr, a_mNot, a_mNil, a_mCons, a_mCallF, a_mFn, a_mTst, a_mVal, a_mChain, a_mCmp, a_mSq, a_mOwn, a_mQ, a_mQ2, a_m2Q, a_mLst, a_mDisp, a_mTup, a_mRepL, a_mSeq, a_mSkip, a_mDrop, a_mRet, a_mRetN, a_mIfS, a_mSet, a_mSetL, a_mRaise, a_mNever, a_mFor, a_mLc, a_mIt, a_mFnL, a_mEnum, a_mSlc, a_mLRng, a_mLOf, a_oNone, a_oSome, a_asN, a_asT, a_mFrz, a_mApp, a_mExt, a_mPopAt, a_mPop, a_mSetM, a_mSetT, a_mSetTM, a_mAppM, a_ownAt, a_bnd, a_bnd_exc, a_bndS, a_bndS_exc, a_bndM, a_lift, a_asL_nil, a_asL_cons, a_gSub, a_gNeg, a_gAdd, a_gAddT, a_gAddL, a_gMod, a_gFdiv, a_gPow, a_gLt, a_gLe, a_gGt, a_gGe, a_truth_bl, a_truth_int, a_truth_lst, a_truth_tup, a_truth_non, a_blD, a_sq_tup, a_sq_lst, a_sq_scr, a_it_tup, a_it_lst, a_it_scr, a_qLen, a_qAt, a_qTuple, a_qSum, a_rng1, a_gLRng, a_fMin2, a_fMax2, a_fMin3, a_fAbs, a_fIntB, a_fIntI, a_isi_non, a_isi_bl, a_isi_int, a_isi_str, a_isi_tup, a_isi_lst, a_isN, a_notN, a_ofT, a_ofL, a_qTruth, a_mZip, a_qSumB, a_mPar, a_mAugI, a_mWhile, a_mPut, a_mParL, a_mPar3, a_gRevT, a_gRevL, a_mZip3, a_mIns, a_gTRng, a_mRetO, a_mRetL, a_mCallL, a_mTry, a_mAugS, a_mCount, a_gCount, a_wipe_nil, a_wipe_cons, a_callM, a_callN, List.map_cons, List.map_nil, List.length_cons, List.length_nil, List.cons_append, List.nil_append, Nat.reduceAdd, Nat.reduceSub, Nat.zero_add, List.replicate_succ, List.replicate_zero, List.getElem?_cons_zero, List.getElem?_cons_succ, List.set_cons_zero, List.set_cons_succ, List.append_nil, if_true, if_false, Bool.true_eq_false, Bool.false_eq_true, decide_true, decide_false, Bool.not_true, Bool.not_false, Nat.reduceLeDiff, Nat.reduceLT, Int.reduceLT, Int.reduceLE, Option.map_some, Option.map_none, Int.reduceToNat, true_and, and_true, Int.reduceNeg, decide_eq_false z]
    rw [if_pos (show (-1000000 : Int) ≤ (many : Nat) ∧ ((many : Nat) : Int) ≤ 1000000 by omega)]
    simp only [a_mVar, a_mC, a_mUn, a_mBin, a_mIf, a_mAnd, a_mOr, a_mNot, a_mNil, a_mCons, a_mCallF, a_mFn, a_mTst, a_mVal, a_mChain, a_mCmp, a_mSq, a_mOwn, a_mQ, a_mQ2, a_m2Q, a_mLst, a_mDisp, a_mTup, a_mRepL, a_mSeq, a_mSkip, a_mDrop, a_mRet, a_mRetN, a_mIfS, a_mSet, a_mSetL, a_mRaise, a_mNever, a_mFor, a_mLc, a_mIt, a_mFnL, a_mEnum, a_mSlc, a_mLRng, a_mLOf, a_oNone, a_oSome, a_asN, a_asT, a_mFrz, a_mApp, a_mExt, a_mPopAt, a_mPop, a_mSetM, a_mSetT, a_mSetTM, a_mAppM, a_ownAt, a_bnd, a_bnd_exc, a_bndS, a_bndS_exc, a_bndM, a_lift, a_asL_nil, a_asL_cons, a_gSub, a_gNeg, a_gAdd, a_gAddT, a_gAddL, a_gMod, a_gFdiv, a_gPow, a_gLt, a_gLe, a_gGt, a_gGe, a_truth_bl, a_truth_int, a_truth_lst, a_truth_tup, a_truth_non, a_blD, a_sq_tup, a_sq_lst, a_sq_scr, a_it_tup, a_it_lst, a_it_scr, a_qLen, a_qAt, a_qTuple, a_qSum, a_rng1, a_gLRng, a_fMin2, a_fMax2, a_fMin3, a_fAbs, a_fIntB, a_fIntI, a_isi_non, a_isi_bl, a_isi_int, a_isi_str, a_isi_tup, a_isi_lst, a_isN, a_notN, a_ofT, a_ofL, a_qTruth, a_mZip, a_qSumB, a_mPar, a_mAugI, a_mWhile, a_mPut, a_mParL, a_mPar3, a_gRevT, a_gRevL, a_mZip3, a_mIns, a_gTRng, a_mRetO, a_mRetL, a_mCallL, a_mTry, a_mAugS, a_mCount, a_gCount, a_wipe_nil, a_wipe_cons, a_callM, a_callN, List.map_cons, List.map_nil, List.length_cons, List.length_nil, List.cons_append, List.nil_append, Nat.reduceAdd, Nat.reduceSub, Nat.zero_add, List.replicate_succ, List.replicate_zero, List.getElem?_cons_zero, List.getElem?_cons_succ, List.set_cons_zero, List.set_cons_succ, List.append_nil, if_true, if_false, Bool.true_eq_false, Bool.false_eq_true, decide_true, decide_false, Bool.not_true, Bool.not_false, Nat.reduceLeDiff, Nat.reduceLT, Int.reduceLT, Int.reduceLE, Option.map_some, Option.map_none, Int.reduceToNat, true_and, and_true, Int.reduceNeg, Int.toNat_natCast, rangeD_map]
    generalize heardF size many o S = some_ at z hb oks su
    generalize hL : loopF _ _ _ _ _ = r
    obtain ⟨env', rfl, q9, q10, rfl⟩ := loopF_at (f := fun i : Nat => D.int (0 + i)) hL (fun k env => ∃ q9 q10, env = [.val (.scr ns), .val (.int size), .val (.int many), .val (tupI d), .val (tupI o), .val (.lst (S.map .int)), q6, .val (.lst (some_.map tupI)), .own (((List.range many).take k).map fun (t : Nat) => sureD some_ t), q9, q10, .none, .none, .none, .none, .none]) ⟨_, _, rfl⟩ (by
        rintro k x env hk ⟨q9, q10, rfl⟩
        obtain ⟨hkl, rfl⟩ := List.getElem?_eq_some_iff.mp hk
        simp at hkl
        rw [List.getElem_range, Int.zero_add]
        refine ⟨_, rfl, ?_⟩
        simp only [a_mVar, a_mC, a_mUn, a_mBin, a_mIf, a_mAnd, a_mOr, a_mNot, a_mNil, a_mCons, a_mCallF, a_mFn, a_mTst, a_mVal, a_mChain, a_mCmp, a_mSq, a_mOwn, a_mQ, a_mQ2, a_m2Q, a_mLst, a_mDisp, a_mTup, a_mRepL, a_mSeq, a_mSkip, a_mDrop, a_mRet, a_mRetN, a_mIfS, a_mSet, a_mSetL, a_mRaise, a_mNever, a_mFor, a_mLc, a_mIt, a_mFnL, a_mEnum, a_mSlc, a_mLRng, a_mLOf, a_oNone, a_oSome, a_asN, a_asT, a_mFrz, a_mApp, a_mExt, a_mPopAt, a_mPop, a_mSetM, a_mSetT, a_mSetTM, a_mAppM, a_ownAt, a_bnd, a_bnd_exc, a_bndS, a_bndS_exc, a_bndM, a_lift, a_asL_nil, a_asL_cons, a_gSub, a_gNeg, a_gAdd, a_gAddT, a_gAddL, a_gMod, a_gFdiv, a_gPow, a_gLt, a_gLe, a_gGt, a_gGe, a_truth_bl, a_truth_int, a_truth_lst, a_truth_tup, a_truth_non, a_blD, a_sq_tup, a_sq_lst, a_sq_scr, a_it_tup, a_it_lst, a_it_scr, a_qLen, a_qAt, a_qTuple, a_qSum, a_rng1, a_gLRng, a_fMin2, a_fMax2, a_fMin3, a_fAbs, a_fIntB, a_fIntI, a_isi_non, a_isi_bl, a_isi_int, a_isi_str, a_isi_tup, a_isi_lst, a_isN, a_notN, a_ofT, a_ofL, a_qTruth, a_mZip, a_qSumB, a_mPar, a_mAugI, a_mWhile, a_mPut, a_mParL, a_mPar3, a_gRevT, a_gRevL, a_mZip3, a_mIns, a_gTRng, a_mRetO, a_mRetL, a_mCallL, a_mTry, a_mAugS, a_mCount, a_gCount, a_wipe_nil, a_wipe_cons, a_callM, a_callN, List.map_cons, List.map_nil, List.length_cons, List.length_nil, List.cons_append, List.nil_append, Nat.reduceAdd, Nat.reduceSub, Nat.zero_add, List.replicate_succ, List.replicate_zero, List.getElem?_cons_zero, List.getElem?_cons_succ, List.set_cons_zero, List.set_cons_succ, List.append_nil, if_true, if_false, Bool.true_eq_false, Bool.false_eq_true, decide_true, decide_false, Bool.not_true, Bool.not_false, Nat.reduceLeDiff, Nat.reduceLT, Int.reduceLT, Int.reduceLE, Option.map_some, Option.map_none, Int.reduceToNat, true_and, and_true, Int.reduceNeg, List.length_map]
        rw [if_pos (show some_.length ≤ sizeLine by unfold sizeLine; omega)]
        generalize hL : lcLoop _ _ _ _ _ _ = r
        obtain rfl := lc_mp (f := tupI) hL (fun d => D.int (at0 d k)) fun d hd => ⟨_, rfl, by simp only [a_mVar, a_mC, a_mUn, a_mBin, a_mIf, a_mAnd, a_mOr, a_mNot, a_mNil, a_mCons, a_mCallF, a_mFn, a_mTst, a_mVal, a_mChain, a_mCmp, a_mSq, a_mOwn, a_mQ, a_mQ2, a_m2Q, a_mLst, a_mDisp, a_mTup, a_mRepL, a_mSeq, a_mSkip, a_mDrop, a_mRet, a_mRetN, a_mIfS, a_mSet, a_mSetL, a_mRaise, a_mNever, a_mFor, a_mLc, a_mIt, a_mFnL, a_mEnum, a_mSlc, a_mLRng, a_mLOf, a_oNone, a_oSome, a_asN, a_asT, a_mFrz, a_mApp, a_mExt, a_mPopAt, a_mPop, a_mSetM, a_mSetT, a_mSetTM, a_mAppM, a_ownAt, a_bnd, a_bnd_exc, a_bndS, a_bndS_exc, a_bndM, a_lift, a_asL_nil, a_asL_cons, a_gSub, a_gNeg, a_gAdd, a_gAddT, a_gAddL, a_gMod, a_gFdiv, a_gPow, a_gLt, a_gLe, a_gGt, a_gGe, a_truth_bl, a_truth_int, a_truth_lst, a_truth_tup, a_truth_non, a_blD, a_sq_tup, a_sq_lst, a_sq_scr, a_it_tup, a_it_lst, a_it_scr, a_qLen, a_qAt, a_qTuple, a_qSum, a_rng1, a_gLRng, a_fMin2, a_fMax2, a_fMin3, a_fAbs, a_fIntB, a_fIntI, a_isi_non, a_isi_bl, a_isi_int, a_isi_str, a_isi_tup, a_isi_lst, a_isN, a_notN, a_ofT, a_ofL, a_qTruth, a_mZip, a_qSumB, a_mPar, a_mAugI, a_mWhile, a_mPut, a_mParL, a_mPar3, a_gRevT, a_gRevL, a_mZip3, a_mIns, a_gTRng, a_mRetO, a_mRetL, a_mCallL, a_mTry, a_mAugS, a_mCount, a_gCount, a_wipe_nil, a_wipe_cons, a_callM, a_callN, List.map_cons, List.map_nil, List.length_cons, List.length_nil, List.cons_append, List.nil_append, Nat.reduceAdd, Nat.reduceSub, Nat.zero_add, List.replicate_succ, List.replicate_zero, List.getElem?_cons_zero, List.getElem?_cons_succ, List.set_cons_zero, List.set_cons_succ, List.append_nil, if_true, if_false, Bool.true_eq_false, Bool.false_eq_true, decide_true, decide_false, Bool.not_true, Bool.not_false, Nat.reduceLeDiff, Nat.reduceLT, Int.reduceLT, Int.reduceLE, Option.map_some, Option.map_none, Int.reduceToNat, true_and, and_true, Int.reduceNeg, at_in (oks d hd).len (show 0 ≤ (k : Int) ∧ (k : Int) < many by omega)]⟩
        clear hL
        rw [show some_.map (fun d => D.int (at0 d k)) = (some_.map fun d => at0 d k).map D.int by rw [List.map_map]; rfl]
        obtain ⟨p0, ps, ep⟩ : ∃ p0 ps, (some_.map fun d => at0 d (k : Int)) = p0 :: ps := by
          cases e : some_ with
          | nil => exact absurd e z
          | cons a b => exact ⟨_, _, rfl⟩
        have a0 : atI ((some_.map fun d => at0 d (k : Int)).map D.int) 0 = some (.int p0) := by rw [ep]; exact atI_n _ 0
        have cd := count_ddup (a := p0) (l := ps)
        have sD : sureD some_ k = if (p0 :: ps).count p0 = (p0 :: ps).length then .int p0 else .non := by
          unfold sureD
          rw [ep]
          by_cases q : (p0 :: ps).count p0 = (p0 :: ps).length
          · rw [if_pos q, if_pos (cd.mp q)]
            rfl
          · rw [if_neg q, if_neg fun w => q (cd.mpr w)]
        have fin : ∀ x : D, x = sureD some_ k → ∃ env2, SRes.next [.val (.scr ns), .val (.int size), .val (.int many), .val (tupI d), .val (tupI o), .val (.lst (S.map .int)), q6, .val (.lst (some_.map tupI)), .own ((((List.range many).take k).map fun (t : Nat) => sureD some_ t) ++ [x]), .val (.int k), .val (.lst ((some_.map fun d => at0 d (k : Int)).map D.int)), .none, .none, .none, .none, .none] [] = .next env2 [] ∧ ∃ q9 q10, env2 = [.val (.scr ns), .val (.int size), .val (.int many), .val (tupI d), .val (tupI o), .val (.lst (S.map .int)), q6, .val (.lst (some_.map tupI)), .own (((List.range many).take (k + 1)).map fun (t : Nat) => sureD some_ t), q9, q10, .none, .none, .none, .none, .none] := fun x ex => by
          refine ⟨_, rfl, .val (.int k), .val (.lst ((some_.map fun d => at0 d (k : Int)).map D.int)), ?_⟩
          rw [List.take_add_one, List.getElem?_range (by omega), ex]
          simp
        have ct : (some_.map fun d => at0 d (k : Int)).count p0 = (p0 :: ps).count p0 := by rw [ep]
        have pln : (some_.map fun d => at0 d (k : Int)).length = (p0 :: ps).length := by rw [ep]
        have hpl : some_.length = (p0 :: ps).length := by rw [← pln, List.length_map]
        simp only [a_mVar, a_mC, a_mUn, a_mBin, a_mIf, a_mAnd, a_mOr, a_mNot, a_mNil, a_mCons, a_mCallF, a_mFn, a_mTst, a_mVal, a_mChain, a_mCmp, a_mSq, a_mOwn, a_mQ, a_mQ2, a_m2Q, a_mLst, a_mDisp, a_mTup, a_mRepL, a_mSeq, a_mSkip, a_mDrop, a_mRet, a_mRetN, a_mIfS, a_mSet, a_mSetL, a_mRaise, a_mNever, a_mFor, a_mLc, a_mIt, a_mFnL, a_mEnum, a_mSlc, a_mLRng, a_mLOf, a_oNone, a_oSome, a_asN, a_asT, a_mFrz, a_mApp, a_mExt, a_mPopAt, a_mPop, a_mSetM, a_mSetT, a_mSetTM, a_mAppM, a_ownAt, a_bnd, a_bnd_exc, a_bndS, a_bndS_exc, a_bndM, a_lift, a_asL_nil, a_asL_cons, a_gSub, a_gNeg, a_gAdd, a_gAddT, a_gAddL, a_gMod, a_gFdiv, a_gPow, a_gLt, a_gLe, a_gGt, a_gGe, a_truth_bl, a_truth_int, a_truth_lst, a_truth_tup, a_truth_non, a_blD, a_sq_tup, a_sq_lst, a_sq_scr, a_it_tup, a_it_lst, a_it_scr, a_qLen, a_qAt, a_qTuple, a_qSum, a_rng1, a_gLRng, a_fMin2, a_fMax2, a_fMin3, a_fAbs, a_fIntB, a_fIntI, a_isi_non, a_isi_bl, a_isi_int, a_isi_str, a_isi_tup, a_isi_lst, a_isN, a_notN, a_ofT, a_ofL, a_qTruth, a_mZip, a_qSumB, a_mPar, a_mAugI, a_mWhile, a_mPut, a_mParL, a_mPar3, a_gRevT, a_gRevL, a_mZip3, a_mIns, a_gTRng, a_mRetO, a_mRetL, a_mCallL, a_mTry, a_mAugS, a_mCount, a_gCount, a_wipe_nil, a_wipe_cons, a_callM, a_callN, List.map_cons, List.map_nil, List.length_cons, List.length_nil, List.cons_append, List.nil_append, Nat.reduceAdd, Nat.reduceSub, Nat.zero_add, List.replicate_succ, List.replicate_zero, List.getElem?_cons_zero, List.getElem?_cons_succ, List.set_cons_zero, List.set_cons_succ, List.append_nil, if_true, if_false, Bool.true_eq_false, Bool.false_eq_true, decide_true, decide_false, Bool.not_true, Bool.not_false, Nat.reduceLeDiff, Nat.reduceLT, Int.reduceLT, Int.reduceLE, Option.map_some, Option.map_none, Int.reduceToNat, true_and, and_true, Int.reduceNeg, a0, intsOf_map, ct, b_eqI, List.length_map, List.length_take, List.length_range, show min k many < sizeLine by unfold sizeLine; omega]
        by_cases q : (p0 :: ps).count p0 = (p0 :: ps).length
        · rw [decide_eq_true (show ((((p0 :: ps).count p0 : Nat) : Int) = ((some_.length : Nat) : Int)) by rw [hpl]; omega)]
          simp only [a_mVar, a_mC, a_mUn, a_mBin, a_mIf, a_mAnd, a_mOr, a_mNot, a_mNil, a_mCons, a_mCallF, a_mFn, a_mTst, a_mVal, a_mChain, a_mCmp, a_mSq, a_mOwn, a_mQ, a_mQ2, a_m2Q, a_mLst, a_mDisp, a_mTup, a_mRepL, a_mSeq, a_mSkip, a_mDrop, a_mRet, a_mRetN, a_mIfS, a_mSet, a_mSetL, a_mRaise, a_mNever, a_mFor, a_mLc, a_mIt, a_mFnL, a_mEnum, a_mSlc, a_mLRng, a_mLOf, a_oNone, a_oSome, a_asN, a_asT, a_mFrz, a_mApp, a_mExt, a_mPopAt, a_mPop, a_mSetM, a_mSetT, a_mSetTM, a_mAppM, a_ownAt, a_bnd, a_bnd_exc, a_bndS, a_bndS_exc, a_bndM, a_lift, a_asL_nil, a_asL_cons, a_gSub, a_gNeg, a_gAdd, a_gAddT, a_gAddL, a_gMod, a_gFdiv, a_gPow, a_gLt, a_gLe, a_gGt, a_gGe, a_truth_bl, a_truth_int, a_truth_lst, a_truth_tup, a_truth_non, a_blD, a_sq_tup, a_sq_lst, a_sq_scr, a_it_tup, a_it_lst, a_it_scr, a_qLen, a_qAt, a_qTuple, a_qSum, a_rng1, a_gLRng, a_fMin2, a_fMax2, a_fMin3, a_fAbs, a_fIntB, a_fIntI, a_isi_non, a_isi_bl, a_isi_int, a_isi_str, a_isi_tup, a_isi_lst, a_isN, a_notN, a_ofT, a_ofL, a_qTruth, a_mZip, a_qSumB, a_mPar, a_mAugI, a_mWhile, a_mPut, a_mParL, a_mPar3, a_gRevT, a_gRevL, a_mZip3, a_mIns, a_gTRng, a_mRetO, a_mRetL, a_mCallL, a_mTry, a_mAugS, a_mCount, a_gCount, a_wipe_nil, a_wipe_cons, a_callM, a_callN, List.map_cons, List.map_nil, List.length_cons, List.length_nil, List.cons_append, List.nil_append, Nat.reduceAdd, Nat.reduceSub, Nat.zero_add, List.replicate_succ, List.replicate_zero, List.getElem?_cons_zero, List.getElem?_cons_succ, List.set_cons_zero, List.set_cons_succ, List.append_nil, if_true, if_false, Bool.true_eq_false, Bool.false_eq_true, decide_true, decide_false, Bool.not_true, Bool.not_false, Nat.reduceLeDiff, Nat.reduceLT, Int.reduceLT, Int.reduceLE, Option.map_some, Option.map_none, Int.reduceToNat, true_and, and_true, Int.reduceNeg, a0]
          refine fin _ ?_
          rw [sD, if_pos q]
        · rw [decide_eq_false (show ¬ ((((p0 :: ps).count p0 : Nat) : Int) = ((some_.length : Nat) : Int)) by rw [hpl]; omega)]
          simp only [a_mVar, a_mC, a_mUn, a_mBin, a_mIf, a_mAnd, a_mOr, a_mNot, a_mNil, a_mCons, a_mCallF, a_mFn, a_mTst, a_mVal, a_mChain, a_mCmp, a_mSq, a_mOwn, a_mQ, a_mQ2, a_m2Q, a_mLst, a_mDisp, a_mTup, a_mRepL, a_mSeq, a_mSkip, a_mDrop, a_mRet, a_mRetN, a_mIfS, a_mSet, a_mSetL, a_mRaise, a_mNever, a_mFor, a_mLc, a_mIt, a_mFnL, a_mEnum, a_mSlc, a_mLRng, a_mLOf, a_oNone, a_oSome, a_asN, a_asT, a_mFrz, a_mApp, a_mExt, a_mPopAt, a_mPop, a_mSetM, a_mSetT, a_mSetTM, a_mAppM, a_ownAt, a_bnd, a_bnd_exc, a_bndS, a_bndS_exc, a_bndM, a_lift, a_asL_nil, a_asL_cons, a_gSub, a_gNeg, a_gAdd, a_gAddT, a_gAddL, a_gMod, a_gFdiv, a_gPow, a_gLt, a_gLe, a_gGt, a_gGe, a_truth_bl, a_truth_int, a_truth_lst, a_truth_tup, a_truth_non, a_blD, a_sq_tup, a_sq_lst, a_sq_scr, a_it_tup, a_it_lst, a_it_scr, a_qLen, a_qAt, a_qTuple, a_qSum, a_rng1, a_gLRng, a_fMin2, a_fMax2, a_fMin3, a_fAbs, a_fIntB, a_fIntI, a_isi_non, a_isi_bl, a_isi_int, a_isi_str, a_isi_tup, a_isi_lst, a_isN, a_notN, a_ofT, a_ofL, a_qTruth, a_mZip, a_qSumB, a_mPar, a_mAugI, a_mWhile, a_mPut, a_mParL, a_mPar3, a_gRevT, a_gRevL, a_mZip3, a_mIns, a_gTRng, a_mRetO, a_mRetL, a_mCallL, a_mTry, a_mAugS, a_mCount, a_gCount, a_wipe_nil, a_wipe_cons, a_callM, a_callN, List.map_cons, List.map_nil, List.length_cons, List.length_nil, List.cons_append, List.nil_append, Nat.reduceAdd, Nat.reduceSub, Nat.zero_add, List.replicate_succ, List.replicate_zero, List.getElem?_cons_zero, List.getElem?_cons_succ, List.set_cons_zero, List.set_cons_succ, List.append_nil, if_true, if_false, Bool.true_eq_false, Bool.false_eq_true, decide_true, decide_false, Bool.not_true, Bool.not_false, Nat.reduceLeDiff, Nat.reduceLT, Int.reduceLT, Int.reduceLE, Option.map_some, Option.map_none, Int.reduceToNat, true_and, and_true, Int.reduceNeg]
          refine fin _ ?_
          rw [sD, if_neg q])
    clear hL
    have ne : gNe (D.lst ((List.range many).map fun (t : Nat) => sureD some_ t)) (D.lst ((List.range many).map fun (t : Nat) => sureD some_ t)) = some false := ne_self (by
      have : ∀ l : List Nat, dptL (l.map fun (t : Nat) => sureD some_ t) = 0 := by
        intro l
        induction l with
        | nil => rw [List.map_nil, dptL]
        | cons a l ih => rw [List.map_cons, dptL, dpt_sure, ih]; rfl
      rw [dpt, this]
      omega)
    simp only [List.length_range]
    rw [List.take_of_length_le (show (List.range many).length ≤ many by simp)]
    simp only [a_mVar, a_mC, a_mUn, a_mBin, a_mIf, a_mAnd, a_mOr, a_mNot, a_mNil, a_mCons, a_mCallF, a_mFn, a_mTst, a_mVal, a_mChain, a_mCmp, a_mSq, a_mOwn, a_mQ, a_mQ2, a_m2Q, a_mLst, a_mDisp, a_mTup, a_mRepL, a_mSeq, a_mSkip, a_mDrop, a_mRet, a_mRetN, a_mIfS, a_mSet, a_mSetL, a_mRaise, a_mNever, a_mFor, a_mLc, a_mIt, a_mFnL, a_mEnum, a_mSlc, a_mLRng, a_mLOf, a_oNone, a_oSome, a_asN, a_asT, a_mFrz, a_mApp, a_mExt, a_mPopAt, a_mPop, a_mSetM, a_mSetT, a_mSetTM, a_mAppM, a_ownAt, a_bnd, a_bnd_exc, a_bndS, a_bndS_exc, a_bndM, a_lift, a_asL_nil, a_asL_cons, a_gSub, a_gNeg, a_gAdd, a_gAddT, a_gAddL, a_gMod, a_gFdiv, a_gPow, a_gLt, a_gLe, a_gGt, a_gGe, a_truth_bl, a_truth_int, a_truth_lst, a_truth_tup, a_truth_non, a_blD, a_sq_tup, a_sq_lst, a_sq_scr, a_it_tup, a_it_lst, a_it_scr, a_qLen, a_qAt, a_qTuple, a_qSum, a_rng1, a_gLRng, a_fMin2, a_fMax2, a_fMin3, a_fAbs, a_fIntB, a_fIntI, a_isi_non, a_isi_bl, a_isi_int, a_isi_str, a_isi_tup, a_isi_lst, a_isN, a_notN, a_ofT, a_ofL, a_qTruth, a_mZip, a_qSumB, a_mPar, a_mAugI, a_mWhile, a_mPut, a_mParL, a_mPar3, a_gRevT, a_gRevL, a_mZip3, a_mIns, a_gTRng, a_mRetO, a_mRetL, a_mCallL, a_mTry, a_mAugS, a_mCount, a_gCount, a_wipe_nil, a_wipe_cons, a_callM, a_callN, List.map_cons, List.map_nil, List.length_cons, List.length_nil, List.cons_append, List.nil_append, Nat.reduceAdd, Nat.reduceSub, Nat.zero_add, List.replicate_succ, List.replicate_zero, List.getElem?_cons_zero, List.getElem?_cons_succ, List.set_cons_zero, List.set_cons_succ, List.append_nil, if_true, if_false, Bool.true_eq_false, Bool.false_eq_true, decide_true, decide_false, Bool.not_true, Bool.not_false, Nat.reduceLeDiff, Nat.reduceLT, Int.reduceLT, Int.reduceLE, Option.map_some, Option.map_none, Int.reduceToNat, true_and, and_true, Int.reduceNeg, su, ne, tail8 s1 s2 h1 h2 h3 dl A]
theorem law_holds : ∀ ns : List Int, ns.length ≤ 63 → ∃ h, f_law [.scr ns] [] = .ok (.bl true) h := by
  intro ns _
  refine ⟨[], ?_⟩
  obtain ⟨size, many, s1, s2, h1, h3, h2, hp, es⟩ := e_sizes2 ns 0 []
  obtain ⟨d, dl, ed⟩ := e_deal (seedF (cell ns 2) 0) size many h3 (by omega) []
  have p1 := Int.emod_nonneg (cell ns 4) (b := 7) (by omega)
  have p2 := Int.emod_lt_of_pos (cell ns 4) (b := 7) (by omega)
  obtain ⟨long, el⟩ := Int.eq_ofNat_of_zero_le p1
  obtain ⟨o, A, ol, eo⟩ := e_law_asks (seedF (cell ns 3) 1) many long h1 (by omega) []
  have es' : f__law_sizes [.scr ns, .int 0] [] = .ok (.tup [.int size, .int many]) [] := es
  have c2' : f__law_cell [.scr ns, .int 2] [] = .ok (.int (cell ns 2)) [] := e_cell ns 2 []
  have c3' : f__law_cell [.scr ns, .int 3] [] = .ok (.int (cell ns 3)) [] := e_cell ns 3 []
  have c4' : f__law_cell [.scr ns, .int 4] [] = .ok (.int (cell ns 4)) [] := e_cell ns 4 []
  have c5' : f__law_cell [.scr ns, .int 5] [] = .ok (.int (cell ns 5)) [] := e_cell ns 5 []
  have c6' : f__law_cell [.scr ns, .int 6] [] = .ok (.int (cell ns 6)) [] := e_cell ns 6 []
  have c7' : f__law_cell [.scr ns, .int 7] [] = .ok (.int (cell ns 7)) [] := e_cell ns 7 []
  have tl := turns_len size d o 0
  have ent : gNe (D.tup (o.map D.int)) (D.tup []) = some (!decide (o = [])) := b_neT o []
  unfold f_law m_law
  simp only [a_mVar, a_mC, a_mUn, a_mBin, a_mIf, a_mAnd, a_mOr, a_mNot, a_mNil, a_mCons, a_mCallF, a_mFn, a_mTst, a_mVal, a_mChain, a_mCmp, a_mSq, a_mOwn, a_mQ, a_mQ2, a_m2Q, a_mLst, a_mDisp, a_mTup, a_mRepL, a_mSeq, a_mSkip, a_mDrop, a_mRet, a_mRetN, a_mIfS, a_mSet, a_mSetL, a_mRaise, a_mNever, a_mFor, a_mLc, a_mIt, a_mFnL, a_mEnum, a_mSlc, a_mLRng, a_mLOf, a_oNone, a_oSome, a_asN, a_asT, a_mFrz, a_mApp, a_mExt, a_mPopAt, a_mPop, a_mSetM, a_mSetT, a_mSetTM, a_mAppM, a_ownAt, a_bnd, a_bnd_exc, a_bndS, a_bndS_exc, a_bndM, a_lift, a_asL_nil, a_asL_cons, a_gSub, a_gNeg, a_gAdd, a_gAddT, a_gAddL, a_gMod, a_gFdiv, a_gPow, a_gLt, a_gLe, a_gGt, a_gGe, a_truth_bl, a_truth_int, a_truth_lst, a_truth_tup, a_truth_non, a_blD, a_sq_tup, a_sq_lst, a_sq_scr, a_it_tup, a_it_lst, a_it_scr, a_qLen, a_qAt, a_qTuple, a_qSum, a_rng1, a_gLRng, a_fMin2, a_fMax2, a_fMin3, a_fAbs, a_fIntB, a_fIntI, a_isi_non, a_isi_bl, a_isi_int, a_isi_str, a_isi_tup, a_isi_lst, a_isN, a_notN, a_ofT, a_ofL, a_qTruth, a_mZip, a_qSumB, a_mPar, a_mAugI, a_mWhile, a_mPut, a_mParL, a_mPar3, a_gRevT, a_gRevL, a_mZip3, a_mIns, a_gTRng, a_mRetO, a_mRetL, a_mCallL, a_mTry, a_mAugS, a_mCount, a_gCount, a_wipe_nil, a_wipe_cons, a_callM, a_callN, List.map_cons, List.map_nil, List.length_cons, List.length_nil, List.cons_append, List.nil_append, Nat.reduceAdd, Nat.reduceSub, Nat.zero_add, List.replicate_succ, List.replicate_zero, List.getElem?_cons_zero, List.getElem?_cons_succ, List.set_cons_zero, List.set_cons_succ, List.append_nil, if_true, if_false, Bool.true_eq_false, Bool.false_eq_true, decide_true, decide_false, Bool.not_true, Bool.not_false, Nat.reduceLeDiff, Nat.reduceLT, Int.reduceLT, Int.reduceLE, Option.map_some, Option.map_none, Int.reduceToNat, true_and, and_true, Int.reduceNeg, es', c2', c3', c4', decide_eq_true (show (0 : Int) < 7 by omega), el, e_seed, ed, eo, n_turned s1 s2 dl A, ent]
  by_cases z : o = []
  · simp only [a_mVar, a_mC, a_mUn, a_mBin, a_mIf, a_mAnd, a_mOr, a_mNot, a_mNil, a_mCons, a_mCallF, a_mFn, a_mTst, a_mVal, a_mChain, a_mCmp, a_mSq, a_mOwn, a_mQ, a_mQ2, a_m2Q, a_mLst, a_mDisp, a_mTup, a_mRepL, a_mSeq, a_mSkip, a_mDrop, a_mRet, a_mRetN, a_mIfS, a_mSet, a_mSetL, a_mRaise, a_mNever, a_mFor, a_mLc, a_mIt, a_mFnL, a_mEnum, a_mSlc, a_mLRng, a_mLOf, a_oNone, a_oSome, a_asN, a_asT, a_mFrz, a_mApp, a_mExt, a_mPopAt, a_mPop, a_mSetM, a_mSetT, a_mSetTM, a_mAppM, a_ownAt, a_bnd, a_bnd_exc, a_bndS, a_bndS_exc, a_bndM, a_lift, a_asL_nil, a_asL_cons, a_gSub, a_gNeg, a_gAdd, a_gAddT, a_gAddL, a_gMod, a_gFdiv, a_gPow, a_gLt, a_gLe, a_gGt, a_gGe, a_truth_bl, a_truth_int, a_truth_lst, a_truth_tup, a_truth_non, a_blD, a_sq_tup, a_sq_lst, a_sq_scr, a_it_tup, a_it_lst, a_it_scr, a_qLen, a_qAt, a_qTuple, a_qSum, a_rng1, a_gLRng, a_fMin2, a_fMax2, a_fMin3, a_fAbs, a_fIntB, a_fIntI, a_isi_non, a_isi_bl, a_isi_int, a_isi_str, a_isi_tup, a_isi_lst, a_isN, a_notN, a_ofT, a_ofL, a_qTruth, a_mZip, a_qSumB, a_mPar, a_mAugI, a_mWhile, a_mPut, a_mParL, a_mPar3, a_gRevT, a_gRevL, a_mZip3, a_mIns, a_gTRng, a_mRetO, a_mRetL, a_mCallL, a_mTry, a_mAugS, a_mCount, a_gCount, a_wipe_nil, a_wipe_cons, a_callM, a_callN, List.map_cons, List.map_nil, List.length_cons, List.length_nil, List.cons_append, List.nil_append, Nat.reduceAdd, Nat.reduceSub, Nat.zero_add, List.replicate_succ, List.replicate_zero, List.getElem?_cons_zero, List.getElem?_cons_succ, List.set_cons_zero, List.set_cons_succ, List.append_nil, if_true, if_false, Bool.true_eq_false, Bool.false_eq_true, decide_true, decide_false, Bool.not_true, Bool.not_false, Nat.reduceLeDiff, Nat.reduceLT, Int.reduceLT, Int.reduceLE, Option.map_some, Option.map_none, Int.reduceToNat, true_and, and_true, Int.reduceNeg, decide_eq_true z, tail_ok s1 s2 h1 h2 h3 hp dl A _ tl]
  · simp only [a_mVar, a_mC, a_mUn, a_mBin, a_mIf, a_mAnd, a_mOr, a_mNot, a_mNil, a_mCons, a_mCallF, a_mFn, a_mTst, a_mVal, a_mChain, a_mCmp, a_mSq, a_mOwn, a_mQ, a_mQ2, a_m2Q, a_mLst, a_mDisp, a_mTup, a_mRepL, a_mSeq, a_mSkip, a_mDrop, a_mRet, a_mRetN, a_mIfS, a_mSet, a_mSetL, a_mRaise, a_mNever, a_mFor, a_mLc, a_mIt, a_mFnL, a_mEnum, a_mSlc, a_mLRng, a_mLOf, a_oNone, a_oSome, a_asN, a_asT, a_mFrz, a_mApp, a_mExt, a_mPopAt, a_mPop, a_mSetM, a_mSetT, a_mSetTM, a_mAppM, a_ownAt, a_bnd, a_bnd_exc, a_bndS, a_bndS_exc, a_bndM, a_lift, a_asL_nil, a_asL_cons, a_gSub, a_gNeg, a_gAdd, a_gAddT, a_gAddL, a_gMod, a_gFdiv, a_gPow, a_gLt, a_gLe, a_gGt, a_gGe, a_truth_bl, a_truth_int, a_truth_lst, a_truth_tup, a_truth_non, a_blD, a_sq_tup, a_sq_lst, a_sq_scr, a_it_tup, a_it_lst, a_it_scr, a_qLen, a_qAt, a_qTuple, a_qSum, a_rng1, a_gLRng, a_fMin2, a_fMax2, a_fMin3, a_fAbs, a_fIntB, a_fIntI, a_isi_non, a_isi_bl, a_isi_int, a_isi_str, a_isi_tup, a_isi_lst, a_isN, a_notN, a_ofT, a_ofL, a_qTruth, a_mZip, a_qSumB, a_mPar, a_mAugI, a_mWhile, a_mPut, a_mParL, a_mPar3, a_gRevT, a_gRevL, a_mZip3, a_mIns, a_gTRng, a_mRetO, a_mRetL, a_mCallL, a_mTry, a_mAugS, a_mCount, a_gCount, a_wipe_nil, a_wipe_cons, a_callM, a_callN, List.map_cons, List.map_nil, List.length_cons, List.length_nil, List.cons_append, List.nil_append, Nat.reduceAdd, Nat.reduceSub, Nat.zero_add, List.replicate_succ, List.replicate_zero, List.getElem?_cons_zero, List.getElem?_cons_succ, List.set_cons_zero, List.set_cons_succ, List.append_nil, if_true, if_false, Bool.true_eq_false, Bool.false_eq_true, decide_true, decide_false, Bool.not_true, Bool.not_false, Nat.reduceLeDiff, Nat.reduceLT, Int.reduceLT, Int.reduceLE, Option.map_some, Option.map_none, Int.reduceToNat, true_and, and_true, Int.reduceNeg, decide_eq_false z, c5', decide_eq_true (show (0 : Int) < 3 by omega), b_eqI]
    by_cases z5 : cell ns 5 % 3 = 0
    · have hol : 0 < o.length := by
        cases o with
        | nil => exact absurd rfl z
        | cons a b => simp
      have a1 := Int.emod_nonneg (cell ns 6) (b := (o.length : Nat)) (by omega)
      have a2 := Int.emod_lt_of_pos (cell ns 6) (b := (o.length : Nat)) (by omega)
      obtain ⟨at', ea⟩ := Int.eq_ofNat_of_zero_le a1
      rw [ea] at a2
      have b1 := Int.emod_nonneg (cell ns 7) (b := 4) (by omega)
      have b2 := Int.emod_lt_of_pos (cell ns 7) (b := 4) (by omega)
      have ew : ∃ v : Int, atI [D.int (-1), D.int 1, D.int (size : Nat), D.int 2] (cell ns 7 % 4) = some (.int v) := by
        have hz : cell ns 7 % 4 = 0 ∨ cell ns 7 % 4 = 1 ∨ cell ns 7 % 4 = 2 ∨ cell ns 7 % 4 = 3 := by omega
        rcases hz with e | e | e | e <;> rw [e]
        · exact ⟨_, rfl⟩
        · exact ⟨_, rfl⟩
        · exact ⟨_, rfl⟩
        · exact ⟨_, rfl⟩
      obtain ⟨v, ew⟩ := ew
      have hat : at' < (turnsF size d 0 o).length := by omega
      have ai : atI ((turnsF size d 0 o).map D.int) (at' : Nat) = some (.int (turnsF size d 0 o)[at']) := by
        rw [atI_n, List.getElem?_map, List.getElem?_eq_getElem hat]
        rfl
      have ix : ixN ((turnsF size d 0 o).map D.int).length ((at' : Nat) : Int) = some at' := by
        unfold ixN
        rw [List.length_map, if_pos (by omega), if_pos (by omega), Int.toNat_natCast]
      simp only [a_mVar, a_mC, a_mUn, a_mBin, a_mIf, a_mAnd, a_mOr, a_mNot, a_mNil, a_mCons, a_mCallF, a_mFn, a_mTst, a_mVal, a_mChain, a_mCmp, a_mSq, a_mOwn, a_mQ, a_mQ2, a_m2Q, a_mLst, a_mDisp, a_mTup, a_mRepL, a_mSeq, a_mSkip, a_mDrop, a_mRet, a_mRetN, a_mIfS, a_mSet, a_mSetL, a_mRaise, a_mNever, a_mFor, a_mLc, a_mIt, a_mFnL, a_mEnum, a_mSlc, a_mLRng, a_mLOf, a_oNone, a_oSome, a_asN, a_asT, a_mFrz, a_mApp, a_mExt, a_mPopAt, a_mPop, a_mSetM, a_mSetT, a_mSetTM, a_mAppM, a_ownAt, a_bnd, a_bnd_exc, a_bndS, a_bndS_exc, a_bndM, a_lift, a_asL_nil, a_asL_cons, a_gSub, a_gNeg, a_gAdd, a_gAddT, a_gAddL, a_gMod, a_gFdiv, a_gPow, a_gLt, a_gLe, a_gGt, a_gGe, a_truth_bl, a_truth_int, a_truth_lst, a_truth_tup, a_truth_non, a_blD, a_sq_tup, a_sq_lst, a_sq_scr, a_it_tup, a_it_lst, a_it_scr, a_qLen, a_qAt, a_qTuple, a_qSum, a_rng1, a_gLRng, a_fMin2, a_fMax2, a_fMin3, a_fAbs, a_fIntB, a_fIntI, a_isi_non, a_isi_bl, a_isi_int, a_isi_str, a_isi_tup, a_isi_lst, a_isN, a_notN, a_ofT, a_ofL, a_qTruth, a_mZip, a_qSumB, a_mPar, a_mAugI, a_mWhile, a_mPut, a_mParL, a_mPar3, a_gRevT, a_gRevL, a_mZip3, a_mIns, a_gTRng, a_mRetO, a_mRetL, a_mCallL, a_mTry, a_mAugS, a_mCount, a_gCount, a_wipe_nil, a_wipe_cons, a_callM, a_callN, List.map_cons, List.map_nil, List.length_cons, List.length_nil, List.cons_append, List.nil_append, Nat.reduceAdd, Nat.reduceSub, Nat.zero_add, List.replicate_succ, List.replicate_zero, List.getElem?_cons_zero, List.getElem?_cons_succ, List.set_cons_zero, List.set_cons_succ, List.append_nil, if_true, if_false, Bool.true_eq_false, Bool.false_eq_true, decide_true, decide_false, Bool.not_true, Bool.not_false, Nat.reduceLeDiff, Nat.reduceLT, Int.reduceLT, Int.reduceLE, Option.map_some, Option.map_none, Int.reduceToNat, true_and, and_true, Int.reduceNeg, decide_eq_true z5, c6', List.length_map, decide_eq_true (show (0 : Int) < (o.length : Nat) by omega), ea, ai, c7', decide_eq_true (show (0 : Int) < 4 by omega), ew]
      rw [List.length_map] at ix
      simp only [a_mVar, a_mC, a_mUn, a_mBin, a_mIf, a_mAnd, a_mOr, a_mNot, a_mNil, a_mCons, a_mCallF, a_mFn, a_mTst, a_mVal, a_mChain, a_mCmp, a_mSq, a_mOwn, a_mQ, a_mQ2, a_m2Q, a_mLst, a_mDisp, a_mTup, a_mRepL, a_mSeq, a_mSkip, a_mDrop, a_mRet, a_mRetN, a_mIfS, a_mSet, a_mSetL, a_mRaise, a_mNever, a_mFor, a_mLc, a_mIt, a_mFnL, a_mEnum, a_mSlc, a_mLRng, a_mLOf, a_oNone, a_oSome, a_asN, a_asT, a_mFrz, a_mApp, a_mExt, a_mPopAt, a_mPop, a_mSetM, a_mSetT, a_mSetTM, a_mAppM, a_ownAt, a_bnd, a_bnd_exc, a_bndS, a_bndS_exc, a_bndM, a_lift, a_asL_nil, a_asL_cons, a_gSub, a_gNeg, a_gAdd, a_gAddT, a_gAddL, a_gMod, a_gFdiv, a_gPow, a_gLt, a_gLe, a_gGt, a_gGe, a_truth_bl, a_truth_int, a_truth_lst, a_truth_tup, a_truth_non, a_blD, a_sq_tup, a_sq_lst, a_sq_scr, a_it_tup, a_it_lst, a_it_scr, a_qLen, a_qAt, a_qTuple, a_qSum, a_rng1, a_gLRng, a_fMin2, a_fMax2, a_fMin3, a_fAbs, a_fIntB, a_fIntI, a_isi_non, a_isi_bl, a_isi_int, a_isi_str, a_isi_tup, a_isi_lst, a_isN, a_notN, a_ofT, a_ofL, a_qTruth, a_mZip, a_qSumB, a_mPar, a_mAugI, a_mWhile, a_mPut, a_mParL, a_mPar3, a_gRevT, a_gRevL, a_mZip3, a_mIns, a_gTRng, a_mRetO, a_mRetL, a_mCallL, a_mTry, a_mAugS, a_mCount, a_gCount, a_wipe_nil, a_wipe_cons, a_callM, a_callN, List.map_cons, List.map_nil, List.length_cons, List.length_nil, List.cons_append, List.nil_append, Nat.reduceAdd, Nat.reduceSub, Nat.zero_add, List.replicate_succ, List.replicate_zero, List.getElem?_cons_zero, List.getElem?_cons_succ, List.set_cons_zero, List.set_cons_succ, List.append_nil, if_true, if_false, Bool.true_eq_false, Bool.false_eq_true, decide_true, decide_false, Bool.not_true, Bool.not_false, Nat.reduceLeDiff, Nat.reduceLT, Int.reduceLT, Int.reduceLE, Option.map_some, Option.map_none, Int.reduceToNat, true_and, and_true, Int.reduceNeg, ix, ew]
      rw [← List.map_set]
      rw [tail_ok s1 s2 h1 h2 h3 hp dl A _ (by rw [List.length_set]; exact tl)]
    · simp only [a_mVar, a_mC, a_mUn, a_mBin, a_mIf, a_mAnd, a_mOr, a_mNot, a_mNil, a_mCons, a_mCallF, a_mFn, a_mTst, a_mVal, a_mChain, a_mCmp, a_mSq, a_mOwn, a_mQ, a_mQ2, a_m2Q, a_mLst, a_mDisp, a_mTup, a_mRepL, a_mSeq, a_mSkip, a_mDrop, a_mRet, a_mRetN, a_mIfS, a_mSet, a_mSetL, a_mRaise, a_mNever, a_mFor, a_mLc, a_mIt, a_mFnL, a_mEnum, a_mSlc, a_mLRng, a_mLOf, a_oNone, a_oSome, a_asN, a_asT, a_mFrz, a_mApp, a_mExt, a_mPopAt, a_mPop, a_mSetM, a_mSetT, a_mSetTM, a_mAppM, a_ownAt, a_bnd, a_bnd_exc, a_bndS, a_bndS_exc, a_bndM, a_lift, a_asL_nil, a_asL_cons, a_gSub, a_gNeg, a_gAdd, a_gAddT, a_gAddL, a_gMod, a_gFdiv, a_gPow, a_gLt, a_gLe, a_gGt, a_gGe, a_truth_bl, a_truth_int, a_truth_lst, a_truth_tup, a_truth_non, a_blD, a_sq_tup, a_sq_lst, a_sq_scr, a_it_tup, a_it_lst, a_it_scr, a_qLen, a_qAt, a_qTuple, a_qSum, a_rng1, a_gLRng, a_fMin2, a_fMax2, a_fMin3, a_fAbs, a_fIntB, a_fIntI, a_isi_non, a_isi_bl, a_isi_int, a_isi_str, a_isi_tup, a_isi_lst, a_isN, a_notN, a_ofT, a_ofL, a_qTruth, a_mZip, a_qSumB, a_mPar, a_mAugI, a_mWhile, a_mPut, a_mParL, a_mPar3, a_gRevT, a_gRevL, a_mZip3, a_mIns, a_gTRng, a_mRetO, a_mRetL, a_mCallL, a_mTry, a_mAugS, a_mCount, a_gCount, a_wipe_nil, a_wipe_cons, a_callM, a_callN, List.map_cons, List.map_nil, List.length_cons, List.length_nil, List.cons_append, List.nil_append, Nat.reduceAdd, Nat.reduceSub, Nat.zero_add, List.replicate_succ, List.replicate_zero, List.getElem?_cons_zero, List.getElem?_cons_succ, List.set_cons_zero, List.set_cons_succ, List.append_nil, if_true, if_false, Bool.true_eq_false, Bool.false_eq_true, decide_true, decide_false, Bool.not_true, Bool.not_false, Nat.reduceLeDiff, Nat.reduceLT, Int.reduceLT, Int.reduceLE, Option.map_some, Option.map_none, Int.reduceToNat, true_and, and_true, Int.reduceNeg, decide_eq_false z5, tail_ok s1 s2 h1 h2 h3 hp dl A _ tl]

end Lw

open PySem PySem.W PySem.Calls PyProof.Rows in
theorem PySem.Challenge.cw_placeround_k22_turns_heard_holds : PySem.Challenge.rw_placeround_k22_turns_heard.Holds := by
  w_on; o_law
  refine HandSHeadRun.head_any (r := OpenLaw.row PySem.Challenge.rw_placeround_k22_turns_heard) (q := view (OpenLaw.row PySem.Challenge.rw_placeround_k22_turns_heard).prog [85]) (H := Lw.hk) (ob := Lw.ob) (M := 20000) (loose := Lw.names) (d := HandSHeadRun.topDef (OpenLaw.row PySem.Challenge.rw_placeround_k22_turns_heard).prog 85) (kwd := []) Lw.ob_eq
    (by kernel_rfl) (fun s => by kernel_rfl) Lw.run (by kernel_rfl) (by kernel_rfl) (by kernel_rfl) (by rfl) (by first | assumption | decide +kernel) (by decide +kernel) ⟨rfl, rfl, rfl, rfl, rfl, by decide +kernel⟩ ?hw ?hc
  case hw => w_witness2
  case hc =>
    refine Fx.walk_fx (l := PySem.Challenge.rw_placeround_k22_turns_heard) (n := 63) (k := 7) (nm := "law") (m := Lw.f_law) rfl (by decide) (by kernel_rfl) ⟨rfl, by decide, by decide⟩ (by kernel_rfl) ?F Lw.law_holds
    intro w mg h Y G
    obtain ⟨K, KX, c, nl⟩ := Y
    have T := Lw.tx KX G c
    obtain ⟨fd, F⟩ := T.d_law
    exact ⟨K, fd, "script", KX, nl, T.g_law, L2.FunD.bindsA (ps := ["script"]) F fun _ _ _ _ _ _ us hl => match us, hl with | [_], _ => rfl, fun base => Lw.law_ok T F⟩
